import PyProof.Rows.All
import Wide.All
import OpenK.AllK
import Wide.FinOn
import HandS.Base
import HandS.Call
import HandS.List
import HandS.Comp
import HandS.Ends
import HandS.Exc
import HandS.Words
import HandS.WordsList
import HandS.WordsExc
import HandS.Defaults
import HandS.Gcd
import HandS.Wide
import HandS.IsInst
import HandS.HeadHook1
import HandS.Style
import HandS.Deep
import HandS.TupAny
import HandS.Flow
import HandS.Head0
import HandS.Head1
import HandS.Head2
import HandS.HeadEnd
import HandS.HeadHook2
import HandS.Zip
import PySem.Challenge.RW_untaughthelm_k06_rows_and_tables
import PyProof.ReprLen
import HandS.Head3
set_option Elab.async false
set_option linter.all false

set_option maxRecDepth 100000
set_option maxHeartbeats 4000000
/-! A layer of my own over HandS: every construct has an executable meaning over plain data (trees for what never changes, numbered cells for what does), and one rule that ties it to the reading. -/
namespace Mi
open PySem PySem.Spec L2

/-! ### plain data -/
inductive AV where
  | non | bl (b : Bool) | int (i : Int) | str (x : Str) | ty (n : String)
  | tup (l : List AV) | lst (l : List AV) | lstR (l : List AV) | obj (c : Str) (ks : List Str) (l : List AV) | ref (i : Nat)
  deriving Inhabited
/-- what a cell holds: a list that changes, an instance that is being made -/
inductive MO where
  | lst (l : List AV) | ins (c : Str) (ks : List Str) (l : List AV)
abbrev AHeap := List (Option MO)
abbrev Env2 := List (Option AV)
structure Exc where
  cls : Str
  ks : List Str
  vs : List AV
inductive Ret (α : Type) where
  | bad | ok (a : α) (h : AHeap) | exc (e : Exc) (h : AHeap)
inductive Fl where
  | nx | rt (v : AV) | bk | ct
inductive RetS where
  | bad | ok (f : Fl) (ρ : Env2) (h : AHeap) | exc (e : Exc) (ρ : Env2) (h : AHeap)
abbrev ME := Env2 → AHeap → Ret AV
abbrev MT := Env2 → AHeap → Ret Bool
abbrev MA := Env2 → AHeap → Ret (List AV)
abbrev MG := AV → Env2 → AHeap → RetS
abbrev MS := Env2 → AHeap → RetS
/-- what a def is worth -/
abbrev Fn := List AV → AHeap → Ret AV

/-! ### how data lies in the heap -/
section
variable (K : PySem.W.Frag) (μ : List Addr) (G : Hp)
mutual
def R : AV → V → Prop
  | .non, v => v = .non
  | .bl b, v => v = .bl b
  | .int i, v => v = .int i
  | .str x, v => v = .str x
  | .ty n, v => v = .ty n
  | .tup l, v => ∃ a vs, v = .ref a ∧ SqT K G a vs ∧ RL l vs
  | .lst l, v => ∃ a vs, v = .ref a ∧ G a = some (.lst vs) ∧ RL l vs
  | .lstR l, v => ∃ a vs, v = .ref a ∧ SqL K G a vs ∧ RL l vs
  | .obj c ks l, v => ∃ a dx vs, v = .ref a ∧ G a = some (.ins (He.ga K c) dx (ks.zip vs)) ∧ ks.length = l.length ∧ RL l vs
  | .ref i, v => ∃ a, μ[i]? = some a ∧ v = .ref a
def RL : List AV → List V → Prop
  | [], vs => vs = []
  | x :: l, vs => ∃ v r, vs = v :: r ∧ R x v ∧ RL l r
end
def RM : MO → Option HO → Prop
  | .lst l, o => ∃ vs, o = some (.lst vs) ∧ RL K μ G l vs
  | .ins c ks l, o => ∃ dx vs, o = some (.ins (He.ga K c) dx (ks.zip vs)) ∧ ks.length = l.length ∧ RL K μ G l vs
end
theorem RL.length {K : PySem.W.Frag} {μ : List Addr} {G : Hp} : ∀ {l : List AV} {vs : List V}, RL K μ G l vs → vs.length = l.length
  | [], vs, h => by
    have h' : vs = [] := h
    rw [h']
    rfl
  | x :: l, vs, h => by
    obtain ⟨v, r, e, _, h2⟩ := (show ∃ v r, vs = v :: r ∧ R K μ G x v ∧ RL K μ G l r from h)
    rw [e, List.length_cons, List.length_cons, RL.length h2]
theorem RL.nil {K : PySem.W.Frag} {μ : List Addr} {G : Hp} : RL K μ G [] [] := rfl
theorem RL.cons {K : PySem.W.Frag} {μ : List Addr} {G : Hp} {x : AV} {l : List AV} {v : V} {vs : List V} (h : R K μ G x v) (h2 : RL K μ G l vs) : RL K μ G (x :: l) (v :: vs) := ⟨v, vs, rfl, h, h2⟩
theorem RL.inv {K : PySem.W.Frag} {μ : List Addr} {G : Hp} {x : AV} {l : List AV} {vs : List V} (h : RL K μ G (x :: l) vs) : ∃ v r, vs = v :: r ∧ R K μ G x v ∧ RL K μ G l r := h
theorem RL.app {K : PySem.W.Frag} {μ : List Addr} {G : Hp} : ∀ {l m : List AV} {vs ws : List V}, RL K μ G l vs → RL K μ G m ws → RL K μ G (l ++ m) (vs ++ ws)
  | [], m, vs, ws, h, h2 => by
    have h' : vs = [] := h
    rw [h']
    exact h2
  | x :: l, m, vs, ws, h, h2 => by
    obtain ⟨v, r, e, h1, h3⟩ := h.inv
    rw [e]
    exact RL.cons h1 (RL.app h3 h2)
theorem RL.get {K : PySem.W.Frag} {μ : List Addr} {G : Hp} : ∀ {l : List AV} {vs : List V} {i : Nat} {x : AV}, RL K μ G l vs → l[i]? = some x → ∃ v, vs[i]? = some v ∧ R K μ G x v
  | [], _, _, _, _, e => by simp at e
  | y :: l, vs, 0, x, h, e => by
    obtain ⟨v, r, e1, h1, h3⟩ := h.inv
    simp at e
    subst e
    rw [e1]
    exact ⟨v, rfl, h1⟩
  | y :: l, vs, i + 1, x, h, e => by
    obtain ⟨v, r, e1, h1, h3⟩ := h.inv
    rw [e1]
    obtain ⟨u, h4, h5⟩ := RL.get (i := i) (x := x) h3 (by simpa using e)
    exact ⟨u, by simpa using h4, h5⟩
theorem RL.getV {K : PySem.W.Frag} {μ : List Addr} {G : Hp} {l : List AV} {vs : List V} {i : Nat} {v : V} (h : RL K μ G l vs) (e : vs[i]? = some v) : ∃ x, l[i]? = some x ∧ R K μ G x v := by
  have hl := RL.length h
  have hi : i < l.length := by
    have := (List.getElem?_eq_some_iff.mp e).1
    omega
  obtain ⟨u, e2, r⟩ := RL.get h (List.getElem?_eq_getElem hi)
  rw [e] at e2
  cases e2
  exact ⟨_, List.getElem?_eq_getElem hi, r⟩
theorem RL.take {K : PySem.W.Frag} {μ : List Addr} {G : Hp} : ∀ {l : List AV} {vs : List V} (n : Nat), RL K μ G l vs → RL K μ G (l.take n) (vs.take n)
  | l, vs, 0, _ => by simp [RL.nil]
  | [], vs, n + 1, h => by
    have h' : vs = [] := h
    rw [h']
    exact RL.nil
  | x :: l, vs, n + 1, h => by
    obtain ⟨v, r, e1, h1, h3⟩ := h.inv
    rw [e1]
    exact RL.cons h1 (RL.take n h3)
theorem RL.drop {K : PySem.W.Frag} {μ : List Addr} {G : Hp} : ∀ {l : List AV} {vs : List V} (n : Nat), RL K μ G l vs → RL K μ G (l.drop n) (vs.drop n)
  | l, vs, 0, h => by simpa using h
  | [], vs, n + 1, h => by
    have h' : vs = [] := h
    rw [h']
    exact RL.nil
  | x :: l, vs, n + 1, h => by
    obtain ⟨v, r, e1, h1, h3⟩ := h.inv
    rw [e1]
    exact RL.drop n h3
theorem RL.set {K : PySem.W.Frag} {μ : List Addr} {G : Hp} {x : AV} {v : V} (hx : R K μ G x v) : ∀ {l : List AV} {vs : List V} (i : Nat), RL K μ G l vs → RL K μ G (l.set i x) (vs.set i v)
  | [], vs, i, h => by
    have h' : vs = [] := h
    rw [h']
    cases i <;> exact RL.nil
  | y :: l, vs, 0, h => by
    obtain ⟨u, r, e1, h1, h3⟩ := h.inv
    rw [e1]
    exact RL.cons hx h3
  | y :: l, vs, i + 1, h => by
    obtain ⟨u, r, e1, h1, h3⟩ := h.inv
    rw [e1]
    exact RL.cons h1 (RL.set hx i h3)
theorem RL.map {K : PySem.W.Frag} {μ : List Addr} {G : Hp} {α : Type} {f : α → AV} {g : α → V} (hf : ∀ a, R K μ G (f a) (g a)) : ∀ l : List α, RL K μ G (l.map f) (l.map g)
  | [] => RL.nil
  | a :: l => RL.cons (hf a) (RL.map hf l)

/-! ### what is known stays known -/
structure Ext (G : Hp) (μ : List Addr) (G' : Hp) (μ' : List Addr) : Prop where
  g : Same G G'
  m : μ <+: μ'
theorem Ext.refl (G : Hp) (μ : List Addr) : Ext G μ G μ := ⟨Same.refl G, List.prefix_rfl⟩
theorem Ext.trans {G G1 G2 : Hp} {μ μ1 μ2 : List Addr} (a : Ext G μ G1 μ1) (b : Ext G1 μ1 G2 μ2) : Ext G μ G2 μ2 := ⟨a.g.trans b.g, a.m.trans b.m⟩
theorem Same.sqt {K : PySem.W.Frag} {G G' : Hp} {a : Addr} {vs : List V} (e : Same G G') (h : SqT K G a vs) : SqT K G' a vs := by
  rcases h with (h | ⟨o, h⟩) | h
  · exact .inl (.inl (e _ _ h))
  · exact .inl (.inr ⟨o, e _ _ h⟩)
  · exact .inr h
theorem pre_get {μ μ' : List Addr} (h : μ <+: μ') {i : Nat} {a : Addr} (e : μ[i]? = some a) : μ'[i]? = some a := by
  obtain ⟨t, rfl⟩ := h
  rw [List.getElem?_append_left (List.getElem?_eq_some_iff.mp e).1]
  exact e
section
variable {K : PySem.W.Frag} {G G' : Hp} {μ μ' : List Addr}
mutual
theorem R.mono (x : Ext G μ G' μ') : ∀ {d : AV} {v : V}, R K μ G d v → R K μ' G' d v
  | .non, _, h => h
  | .bl _, _, h => h
  | .int _, _, h => h
  | .str _, _, h => h
  | .ty _, _, h => h
  | .tup l, v, h => by
    obtain ⟨a, vs, e, s, r⟩ := h
    exact ⟨a, vs, e, Same.sqt x.g s, RL.mono x r⟩
  | .lst l, v, h => by
    obtain ⟨a, vs, e, s, r⟩ := h
    exact ⟨a, vs, e, x.g _ _ s, RL.mono x r⟩
  | .lstR l, v, h => by
    obtain ⟨a, vs, e, s, r⟩ := h
    exact ⟨a, vs, e, x.g.seq s, RL.mono x r⟩
  | .obj c ks l, v, h => by
    obtain ⟨a, dx, vs, e, s, le, r⟩ := h
    exact ⟨a, dx, vs, e, x.g _ _ s, le, RL.mono x r⟩
  | .ref i, v, h => by
    obtain ⟨a, e, h⟩ := h
    exact ⟨a, pre_get x.m e, h⟩
theorem RL.mono (x : Ext G μ G' μ') : ∀ {d : List AV} {v : List V}, RL K μ G d v → RL K μ' G' d v
  | [], _, h => h
  | y :: l, vs, h => by
    obtain ⟨v, r, e, h1, h2⟩ := h
    exact ⟨v, r, e, R.mono x h1, RL.mono x h2⟩
end
theorem RM.mono (x : Ext G μ G' μ') : ∀ {m : MO} {o : Option HO}, RM K μ G m o → RM K μ' G' m o
  | .lst l, o, h => by
    obtain ⟨vs, e, r⟩ := h
    exact ⟨vs, e, RL.mono x r⟩
  | .ins c ks l, o, h => by
    obtain ⟨dx, vs, e, le, r⟩ := h
    exact ⟨dx, vs, e, le, RL.mono x r⟩
theorem RM.ne {m : MO} {o : Option HO} (h : RM K μ G m o) : o ≠ none := by
  cases m with
  | lst l =>
    obtain ⟨vs, e, r⟩ := h
    rw [e]
    exact fun z => nomatch z
  | ins c ks l =>
    obtain ⟨dx, vs, e, le, r⟩ := h
    rw [e]
    exact fun z => nomatch z
end

/-- the heap: what never changes (G), the cells (at μ) -/
structure RelH (K : PySem.W.Frag) (H : Hp) (h : AHeap) (G : Hp) (μ : List Addr) : Prop where
  ex : Same G H
  len : μ.length = h.length
  cont : ∀ (i : Nat) (mo : MO), h[i]? = some (some mo) → ∃ a, μ[i]? = some a ∧ G a = none ∧ RM K μ G mo (H a)
  inj : ∀ (i j : Nat) (a : Addr) (mo mo' : MO), h[i]? = some (some mo) → h[j]? = some (some mo') → μ[i]? = some a → μ[j]? = some a → i = j
def RelS (K : PySem.W.Frag) (σ : St) (ρ : Env2) (G : Hp) (μ : List Addr) : Prop := σ.length = ρ.length ∧ ∀ (i : Nat) (d : AV), ρ[i]? = some (some d) → ∃ v, σ[i]? = some (some v) ∧ R K μ G d v
structure Rel (K : PySem.W.Frag) (σ : St) (H : Hp) (ρ : Env2) (h : AHeap) (G : Hp) (μ : List Addr) : Prop where
  hp : RelH K H h G μ
  sl : RelS K σ ρ G μ
theorem RelS.mono {K : PySem.W.Frag} {σ : St} {ρ : Env2} {G G' : Hp} {μ μ' : List Addr} (x : Ext G μ G' μ') (h : RelS K σ ρ G μ) : RelS K σ ρ G' μ' := ⟨h.1, fun i d e => by
  obtain ⟨v, e1, r⟩ := h.2 i d e
  exact ⟨v, e1, R.mono x r⟩⟩
theorem RelS.set {K : PySem.W.Frag} {σ : St} {ρ : Env2} {G : Hp} {μ : List Addr} (h : RelS K σ ρ G μ) {i : Nat} {d : AV} {v : V} (r : R K μ G d v) : RelS K (σ.set i (some v)) (ρ.set i (some d)) G μ := by
  refine ⟨by rw [List.length_set, List.length_set]; exact h.1, fun j e he => ?_⟩
  by_cases q : i = j
  · subst q
    by_cases hi : i < ρ.length
    · rw [List.getElem?_set_self hi] at he
      cases he
      exact ⟨v, List.getElem?_set_self (by rw [h.1]; exact hi), r⟩
    · rw [List.getElem?_eq_none (by rw [List.length_set]; omega)] at he
      cases he
  · rw [List.getElem?_set_ne q] at he
    obtain ⟨u, e1, r1⟩ := h.2 j e he
    exact ⟨u, by rw [List.getElem?_set_ne q]; exact e1, r1⟩
theorem RelS.unset {K : PySem.W.Frag} {σ : St} {ρ : Env2} {G : Hp} {μ : List Addr} (h : RelS K σ ρ G μ) {i : Nat} : RelS K (σ.set i none) (ρ.set i none) G μ := by
  refine ⟨by rw [List.length_set, List.length_set]; exact h.1, fun j e he => ?_⟩
  by_cases q : i = j
  · subst q
    by_cases hi : i < ρ.length
    · rw [List.getElem?_set_self hi] at he
      cases he
    · rw [List.getElem?_eq_none (by rw [List.length_set]; omega)] at he
      cases he
  · rw [List.getElem?_set_ne q] at he
    obtain ⟨u, e1, r1⟩ := h.2 j e he
    exact ⟨u, by rw [List.getElem?_set_ne q]; exact e1, r1⟩

section
variable {K : PySem.W.Frag} {H : Hp} {h : AHeap} {G : Hp} {μ : List Addr}
/-- what is new to H is new to G -/
theorem RelH.free (r : RelH K H h G μ) {p : Addr} (hp : H p = none) : G p = none := r.ex.free hp
/-- a new object that never changes -/
theorem RelH.grow (r : RelH K H h G μ) {p : Addr} {o : HO} (hp : H p = none) : RelH K (upd H p o) h (upd G p o) μ ∧ Ext G μ (upd G p o) μ := by
  have hg := r.free hp
  have x : Ext G μ (upd G p o) μ := ⟨fun b u e => by rw [upd_ne (ne_of_none e hg)]; exact e, List.prefix_rfl⟩
  refine ⟨⟨fun b u e => ?_, r.len, fun i mo e => ?_, r.inj⟩, x⟩
  · by_cases hb : b = p
    · subst hb
      rw [upd_same] at e ⊢
      exact e
    · rw [upd_ne hb] at e ⊢
      exact r.ex b u e
  · obtain ⟨a, e1, e2, e3⟩ := r.cont i mo e
    have hne : a ≠ p := fun z => RM.ne e3 (by rw [z]; exact hp)
    exact ⟨a, e1, by rw [upd_ne hne]; exact e2, by rw [upd_ne hne]; exact RM.mono x e3⟩
/-- a new object that nobody speaks of -/
theorem RelH.other (r : RelH K H h G μ) {H' : Hp} (k : ∀ b o, H b = some o → H' b = some o) : RelH K H' h G μ :=
  ⟨fun b u e => k b u (r.ex b u e), r.len, fun i mo e => by
    obtain ⟨a, e1, e2, e3⟩ := r.cont i mo e
    refine ⟨a, e1, e2, ?_⟩
    cases q : H a with
    | none => exact absurd q (RM.ne e3)
    | some o =>
      rw [q] at e3
      rw [k a o q]
      exact e3, r.inj⟩
/-- a new cell -/
theorem RelH.cell (r : RelH K H h G μ) {p : Addr} {o : HO} {mo : MO} (hp : H p = none) (hm : RM K (μ ++ [p]) G mo (some o)) : RelH K (upd H p o) (h ++ [some mo]) G (μ ++ [p]) ∧ Ext G μ G (μ ++ [p]) := by
  have hg := r.free hp
  have x : Ext G μ G (μ ++ [p]) := ⟨Same.refl G, List.prefix_append _ _⟩
  refine ⟨⟨fun b u e => ?_, by simp [r.len], fun i m e => ?_, fun i j a m m' e1 e2 e3 e4 => ?_⟩, x⟩
  · rw [upd_ne (ne_of_none e hg)]
    exact r.ex b u e
  · by_cases hi : i < h.length
    · rw [List.getElem?_append_left hi] at e
      obtain ⟨a, e1, e2, e3⟩ := r.cont i m e
      have hne : a ≠ p := fun z => RM.ne e3 (by rw [z]; exact hp)
      exact ⟨a, pre_get x.m e1, e2, by rw [upd_ne hne]; exact RM.mono x e3⟩
    · have hl : i = h.length := by
        have := (List.getElem?_eq_some_iff.mp e).1
        rw [List.length_append, List.length_singleton] at this
        omega
      subst hl
      rw [List.getElem?_append_right (Nat.le_refl _), Nat.sub_self] at e
      cases e
      refine ⟨p, ?_, hg, by rw [upd_same]; exact hm⟩
      rw [← r.len, List.getElem?_append_right (Nat.le_refl _), Nat.sub_self]
      rfl
  · have old : ∀ {i : Nat} {m : MO}, (h ++ [some mo])[i]? = some (some m) → (μ ++ [p])[i]? = some a → i < h.length → ∃ m2, h[i]? = some (some m2) ∧ μ[i]? = some a ∧ a ≠ p := fun {i m} f1 f2 hi => by
      rw [List.getElem?_append_left hi] at f1
      rw [List.getElem?_append_left (by rw [r.len]; exact hi)] at f2
      obtain ⟨a', g1, g2, g3⟩ := r.cont i m f1
      rw [f2] at g1
      cases g1
      exact ⟨m, f1, f2, fun z => RM.ne g3 (by rw [z]; exact hp)⟩
    have new : ∀ {i : Nat} {m : MO}, (h ++ [some mo])[i]? = some (some m) → (μ ++ [p])[i]? = some a → ¬ i < h.length → i = h.length ∧ a = p := fun {i m} f1 f2 hi => by
      have hl : i = h.length := by
        have := (List.getElem?_eq_some_iff.mp f1).1
        rw [List.length_append, List.length_singleton] at this
        omega
      refine ⟨hl, ?_⟩
      rw [hl, ← r.len, List.getElem?_append_right (Nat.le_refl _), Nat.sub_self] at f2
      exact (Option.some.inj f2).symm
    by_cases hi : i < h.length
    · by_cases hj : j < h.length
      · obtain ⟨m1, g1, g2, _⟩ := old e1 e3 hi
        obtain ⟨m2, g3, g4, _⟩ := old e2 e4 hj
        exact r.inj i j a _ _ g1 g3 g2 g4
      · obtain ⟨_, _, _, z⟩ := old e1 e3 hi
        exact absurd (new e2 e4 hj).2 z
    · by_cases hj : j < h.length
      · obtain ⟨_, _, _, z⟩ := old e2 e4 hj
        exact absurd (new e1 e3 hi).2 z
      · rw [(new e1 e3 hi).1, (new e2 e4 hj).1]
/-- a cell is written -/
theorem RelH.write (r : RelH K H h G μ) {i : Nat} {a : Addr} {o : HO} {mo mo' : MO} (e : h[i]? = some (some mo)) (ea : μ[i]? = some a) (hm : RM K μ G mo' (some o)) : RelH K (upd H a o) (h.set i (some mo')) G μ := by
  obtain ⟨a', g1, g2, g3⟩ := r.cont i mo e
  rw [ea] at g1
  cases g1
  have hi : i < h.length := (List.getElem?_eq_some_iff.mp e).1
  have back : ∀ {j : Nat} {m : MO}, (h.set i (some mo'))[j]? = some (some m) → ∃ m2, h[j]? = some (some m2) := fun {j m} q => by
    by_cases hj : i = j
    · rw [← hj]
      exact ⟨mo, e⟩
    · rw [List.getElem?_set_ne hj] at q
      exact ⟨m, q⟩
  refine ⟨fun b u q => ?_, by simp [r.len], fun j m q => ?_, fun j k b m m' q1 q2 q3 q4 => ?_⟩
  · rw [upd_ne (ne_of_none q g2)]
    exact r.ex b u q
  · by_cases hj : i = j
    · subst hj
      rw [List.getElem?_set_self hi] at q
      cases q
      exact ⟨a, ea, g2, by rw [upd_same]; exact hm⟩
    · rw [List.getElem?_set_ne hj] at q
      obtain ⟨b, f1, f2, f3⟩ := r.cont j m q
      refine ⟨b, f1, f2, ?_⟩
      have hne : b ≠ a := fun z => hj (r.inj i j a _ _ e q ea (by rw [← z]; exact f1))
      rw [upd_ne hne]
      exact f3
  · obtain ⟨m1, w1⟩ := back q1
    obtain ⟨m2, w2⟩ := back q2
    exact r.inj j k b _ _ w1 w2 q3 q4
/-- a cell ends: what it holds never changes from now on -/
theorem RelH.freeze (r : RelH K H h G μ) {i : Nat} {a : Addr} {o : HO} {mo : MO} (e : h[i]? = some (some mo)) (ea : μ[i]? = some a) (eo : H a = some o) : RelH K H (h.set i none) (upd G a o) μ ∧ Ext G μ (upd G a o) μ := by
  obtain ⟨a', g1, g2, g3⟩ := r.cont i mo e
  rw [ea] at g1
  cases g1
  have x : Ext G μ (upd G a o) μ := ⟨fun b u q => by rw [upd_ne (ne_of_none q g2)]; exact q, List.prefix_rfl⟩
  have hi : i < h.length := (List.getElem?_eq_some_iff.mp e).1
  have back : ∀ {j : Nat} {m : MO}, (h.set i none)[j]? = some (some m) → i ≠ j ∧ h[j]? = some (some m) := fun {j m} q => by
    by_cases hj : i = j
    · subst hj
      rw [List.getElem?_set_self hi] at q
      cases q
    · rw [List.getElem?_set_ne hj] at q
      exact ⟨hj, q⟩
  refine ⟨⟨fun b u q => ?_, by simp [r.len], fun j m q => ?_, fun j k b m m' q1 q2 q3 q4 => ?_⟩, x⟩
  · by_cases hb : b = a
    · subst hb
      rw [upd_same] at q
      rw [eo]
      exact q
    · rw [upd_ne hb] at q
      exact r.ex b u q
  · obtain ⟨hj, q⟩ := back q
    obtain ⟨b, f1, f2, f3⟩ := r.cont j m q
    have hne : b ≠ a := fun z => hj (r.inj i j a _ _ e q ea (by rw [← z]; exact f1))
    exact ⟨b, f1, by rw [upd_ne hne]; exact f2, RM.mono x f3⟩
  · exact r.inj j k b _ _ (back q1).2 (back q2).2 q3 q4
end

/-! ### the judgements -/
def RExc (K : PySem.W.Frag) (μ : List Addr) (G : Hp) (e : Exc) (d : Option Addr) : Prop := e.ks.length = e.vs.length ∧ (e.ks = [] ∨ ∃ dd vs, d = some dd ∧ G dd = some (.xd (e.ks.zip vs)) ∧ RL K μ G e.vs vs)
/-- what is wanted where an exception leaves -/
abbrev WX2 := Value → Option Addr → St → Hp → Prop
def ExcK (K : PySem.W.Frag) (W : WX2) (e : Exc) (σ : St) (ρ : Env2) (h' : AHeap) (G : Hp) (μ : List Addr) : Prop :=
  ∀ d H' G' μ', Rel K σ H' ρ h' G' μ' → Ext G μ G' μ' → RExc K μ' G' e d → W (.ref (He.ga K e.cls)) d σ H'
def SimE (K : PySem.W.Frag) (W : WX2) (t : TE) (m : ME) : Prop := ∀ σ H ρ h G μ, Rel K σ H ρ h G μ → ∀ Q : VK, match m ρ h with
  | .bad => True
  | .ok d h' => (∀ v H' G' μ', Rel K σ H' ρ h' G' μ' → Ext G μ G' μ' → R K μ' G' d v → Q v H') → t σ H Q
  | .exc e h' => ExcK K W e σ ρ h' G μ → t σ H Q
def SimT (K : PySem.W.Frag) (W : WX2) (t : TT) (m : MT) : Prop := ∀ σ H ρ h G μ, Rel K σ H ρ h G μ → ∀ Q : Bool → Hp → Prop, match m ρ h with
  | .bad => True
  | .ok b h' => (∀ H' G' μ', Rel K σ H' ρ h' G' μ' → Ext G μ G' μ' → Q b H') → t σ H Q
  | .exc e h' => ExcK K W e σ ρ h' G μ → t σ H Q
def SimA (K : PySem.W.Frag) (W : WX2) (t : TA) (m : MA) : Prop := ∀ σ H ρ h G μ, Rel K σ H ρ h G μ → ∀ Q : List V → Hp → Prop, match m ρ h with
  | .bad => True
  | .ok l h' => (∀ vs H' G' μ', Rel K σ H' ρ h' G' μ' → Ext G μ G' μ' → RL K μ' G' l vs → Q vs H') → t σ H Q
  | .exc e h' => ExcK K W e σ ρ h' G μ → t σ H Q
def FlK (K : PySem.W.Frag) (D : Ends) (σ : St) (H : Hp) (G : Hp) (μ : List Addr) : Fl → Prop
  | .nx => D.nx σ H
  | .bk => D.bk σ H
  | .ct => D.ct σ H
  | .rt d => ∀ v, R K μ G d v → D.rt v H
def SimS (K : PySem.W.Frag) (W : WX2) (t : TS) (m : MS) : Prop := ∀ σ H ρ h G μ, Rel K σ H ρ h G μ → ∀ D : Ends, match m ρ h with
  | .bad => True
  | .ok f ρ' h' => (∀ σ' H' G' μ', Rel K σ' H' ρ' h' G' μ' → Ext G μ G' μ' → FlK K D σ' H' G' μ' f) → t D σ H
  | .exc e ρ' h' => (∀ d σ' H' G' μ', Rel K σ' H' ρ' h' G' μ' → Ext G μ G' μ' → RExc K μ' G' e d → W (.ref (He.ga K e.cls)) d σ' H') → t D σ H
/-- a target: it stores a value -/
def SimG (K : PySem.W.Frag) (W : WX2) (t : TG) (m : MG) : Prop := ∀ σ H ρ h G μ, Rel K σ H ρ h G μ → ∀ d v, R K μ G d v → ∀ Q : St → Hp → Prop, match m d ρ h with
  | .bad => True
  | .ok .nx ρ' h' => (∀ σ' H' G' μ', Rel K σ' H' ρ' h' G' μ' → Ext G μ G' μ' → Q σ' H') → t v σ H Q
  | _ => True
/-! the reading that a meaning has by itself -/
def cE (K : PySem.W.Frag) (W : WX2) (m : ME) : TE := fun σ H Q => ∃ ρ h G μ, Rel K σ H ρ h G μ ∧ match m ρ h with
  | .bad => False
  | .ok d h' => ∀ v H' G' μ', Rel K σ H' ρ h' G' μ' → Ext G μ G' μ' → R K μ' G' d v → Q v H'
  | .exc e h' => ExcK K W e σ ρ h' G μ
def cT (K : PySem.W.Frag) (W : WX2) (m : MT) : TT := fun σ H Q => ∃ ρ h G μ, Rel K σ H ρ h G μ ∧ match m ρ h with
  | .bad => False
  | .ok b h' => ∀ H' G' μ', Rel K σ H' ρ h' G' μ' → Ext G μ G' μ' → Q b H'
  | .exc e h' => ExcK K W e σ ρ h' G μ
def cA (K : PySem.W.Frag) (W : WX2) (m : MA) : TA := fun σ H Q => ∃ ρ h G μ, Rel K σ H ρ h G μ ∧ match m ρ h with
  | .bad => False
  | .ok l h' => ∀ vs H' G' μ', Rel K σ H' ρ h' G' μ' → Ext G μ G' μ' → RL K μ' G' l vs → Q vs H'
  | .exc e h' => ExcK K W e σ ρ h' G μ
def cS (K : PySem.W.Frag) (W : WX2) (m : MS) : TS := fun D σ H => ∃ ρ h G μ, Rel K σ H ρ h G μ ∧ match m ρ h with
  | .bad => False
  | .ok f ρ' h' => ∀ σ' H' G' μ', Rel K σ' H' ρ' h' G' μ' → Ext G μ G' μ' → FlK K D σ' H' G' μ' f
  | .exc e ρ' h' => ∀ d σ' H' G' μ', Rel K σ' H' ρ' h' G' μ' → Ext G μ G' μ' → RExc K μ' G' e d → W (.ref (He.ga K e.cls)) d σ' H'
def cG (K : PySem.W.Frag) (m : MG) : TG := fun v σ H Q => ∃ ρ h G μ d, Rel K σ H ρ h G μ ∧ R K μ G d v ∧ match m d ρ h with
  | .ok .nx ρ' h' => ∀ σ' H' G' μ', Rel K σ' H' ρ' h' G' μ' → Ext G μ G' μ' → Q σ' H'
  | _ => False
section
variable {K : PySem.W.Frag} {W : WX2}
theorem sE (m : ME) : SimE K W (cE K W m) m := fun σ H ρ h G μ rel Q => by
  cases e : m ρ h with
  | bad => trivial
  | ok d h' =>
    intro k
    exact ⟨ρ, h, G, μ, rel, by rw [e]; exact k⟩
  | exc x h' =>
    intro k
    exact ⟨ρ, h, G, μ, rel, by rw [e]; exact k⟩
theorem sT (m : MT) : SimT K W (cT K W m) m := fun σ H ρ h G μ rel Q => by
  cases e : m ρ h with
  | bad => trivial
  | ok d h' =>
    intro k
    exact ⟨ρ, h, G, μ, rel, by rw [e]; exact k⟩
  | exc x h' =>
    intro k
    exact ⟨ρ, h, G, μ, rel, by rw [e]; exact k⟩
theorem sA (m : MA) : SimA K W (cA K W m) m := fun σ H ρ h G μ rel Q => by
  cases e : m ρ h with
  | bad => trivial
  | ok d h' =>
    intro k
    exact ⟨ρ, h, G, μ, rel, by rw [e]; exact k⟩
  | exc x h' =>
    intro k
    exact ⟨ρ, h, G, μ, rel, by rw [e]; exact k⟩
theorem sS (m : MS) : SimS K W (cS K W m) m := fun σ H ρ h G μ rel D => by
  cases e : m ρ h with
  | bad => trivial
  | ok f ρ' h' =>
    intro k
    exact ⟨ρ, h, G, μ, rel, by rw [e]; exact k⟩
  | exc x ρ' h' =>
    intro k
    exact ⟨ρ, h, G, μ, rel, by rw [e]; exact k⟩
theorem sG (m : MG) : SimG K W (cG K m) m := fun σ H ρ h G μ rel d v r Q => by
  cases e : m d ρ h with
  | bad => trivial
  | exc x ρ' h' => trivial
  | ok f ρ' h' =>
    cases f with
    | nx =>
      intro k
      exact ⟨ρ, h, G, μ, d, rel, r, by rw [e]; exact k⟩
    | _ => trivial
theorem SimE.to {t : TE} {m : ME} (s : SimE K W t m) (σ : L2.St) (H : Hp) (Q : VK) (c : cE K W m σ H Q) : t σ H Q := by
  obtain ⟨ρ, h, G, μ, rel, k⟩ := c
  have z := s σ H ρ h G μ rel Q
  revert k z
  cases m ρ h with
  | bad => exact fun k => k.elim
  | ok d h' => exact fun k z => z k
  | exc x h' => exact fun k z => z k
theorem SimT.to {t : TT} {m : MT} (s : SimT K W t m) (σ : L2.St) (H : Hp) (Q : Bool → Hp → Prop) (c : cT K W m σ H Q) : t σ H Q := by
  obtain ⟨ρ, h, G, μ, rel, k⟩ := c
  have z := s σ H ρ h G μ rel Q
  revert k z
  cases m ρ h with
  | bad => exact fun k => k.elim
  | ok d h' => exact fun k z => z k
  | exc x h' => exact fun k z => z k
theorem SimA.to {t : TA} {m : MA} (s : SimA K W t m) (σ : L2.St) (H : Hp) (Q : List V → Hp → Prop) (c : cA K W m σ H Q) : t σ H Q := by
  obtain ⟨ρ, h, G, μ, rel, k⟩ := c
  have z := s σ H ρ h G μ rel Q
  revert k z
  cases m ρ h with
  | bad => exact fun k => k.elim
  | ok d h' => exact fun k z => z k
  | exc x h' => exact fun k z => z k
theorem SimS.to {t : TS} {m : MS} (s : SimS K W t m) (D : Ends) (σ : L2.St) (H : Hp) (c : cS K W m D σ H) : t D σ H := by
  obtain ⟨ρ, h, G, μ, rel, k⟩ := c
  have z := s σ H ρ h G μ rel D
  revert k z
  cases m ρ h with
  | bad => exact fun k => k.elim
  | ok f ρ' h' => exact fun k z => z k
  | exc x ρ' h' => exact fun k z => z k
theorem SimG.to {t : TG} {m : MG} (s : SimG K W t m) (v : V) (σ : L2.St) (H : Hp) (Q : L2.St → Hp → Prop) (c : cG K m v σ H Q) : t v σ H Q := by
  obtain ⟨ρ, h, G, μ, d, rel, r, k⟩ := c
  have z := s σ H ρ h G μ rel d v r Q
  revert k z
  cases m d ρ h with
  | bad => exact fun k => k.elim
  | exc x ρ' h' => exact fun k => k.elim
  | ok f ρ' h' =>
    cases f with
    | nx => exact fun k z => z k
    | _ => exact fun k => k.elim
end
structure PEm (X : Cx) (W : WX2) (e : Expr) (m : ME) : Prop where
  p : PE X e (cE X.K W m)
structure PTm (X : Cx) (W : WX2) (e : Expr) (m : MT) : Prop where
  p : PT X e (cT X.K W m)
structure PWm (X : Cx) (W : WX2) (e : Expr) (m : MT) : Prop where
  p : PW X e (cT X.K W m)
structure PAm (X : Cx) (W : WX2) (es : List Expr) (m : MA) : Prop where
  p : PA X es (cA X.K W m)
structure PSm (X : Cx) (W : WX2) (st : Stmt) (m : MS) : Prop where
  p : PS X st (cS X.K W m)
structure PSsm (X : Cx) (W : WX2) (sts : List Stmt) (m : MS) : Prop where
  p : PSs X sts (cS X.K W m)
structure PGm (X : Cx) (e : Expr) (m : MG) : Prop where
  p : PG X e (cG X.K m)
section
variable {X : Cx} {W : WX2} {e : Expr} {es : List Expr} {st : Stmt} {sts : List Stmt}
theorem PEm.of {t : TE} {m : ME} (p : PE X e t) (s : SimE X.K W t m) : PEm X W e m := ⟨⟨fun pins s' σ H Q I c => p.run pins s' σ H Q I (s.to σ H Q c)⟩⟩
theorem PTm.of {t : TT} {m : MT} (p : PT X e t) (s : SimT X.K W t m) : PTm X W e m := ⟨⟨fun pins s' σ H Q I c => p.run pins s' σ H Q I (s.to σ H Q c)⟩⟩
theorem PWm.of {t : TT} {m : MT} (p : PW X e t) (s : SimT X.K W t m) : PWm X W e m := ⟨⟨fun wh pins s' σ H Q I c => p.run wh pins s' σ H Q I (s.to σ H Q c)⟩⟩
theorem PAm.of {t : TA} {m : MA} (p : PA X es t) (s : SimA X.K W t m) : PAm X W es m := ⟨⟨fun pos pins s' σ H Q I c => p.run pos pins s' σ H Q I (s.to σ H Q c)⟩⟩
theorem PSm.of {t : TS} {m : MS} (p : PS X st t) (s : SimS X.K W t m) : PSm X W st m := ⟨⟨fun pins s' σ H D I c => p.run pins s' σ H D I (s.to D σ H c)⟩⟩
theorem PSsm.of {t : TS} {m : MS} (p : PSs X sts t) (s : SimS X.K W t m) : PSsm X W sts m := ⟨⟨fun pins s' σ H D I c => p.run pins s' σ H D I (s.to D σ H c)⟩⟩
theorem PGm.of {t : TG} {m : MG} (p : PG X e t) (s : SimG X.K W t m) : PGm X e m := ⟨⟨fun pins s' σ H v u Q I r c => p.run pins s' σ H v u Q I r (s.to v σ H Q c)⟩⟩
theorem PEm.x {m : ME} (h : PEm X W e m) : ∃ t, PE X e t ∧ SimE X.K W t m := ⟨_, h.p, sE m⟩
theorem PTm.x {m : MT} (h : PTm X W e m) : ∃ t, PT X e t ∧ SimT X.K W t m := ⟨_, h.p, sT m⟩
theorem PWm.x {m : MT} (h : PWm X W e m) : ∃ t, PW X e t ∧ SimT X.K W t m := ⟨_, h.p, sT m⟩
theorem PAm.x {m : MA} (h : PAm X W es m) : ∃ t, PA X es t ∧ SimA X.K W t m := ⟨_, h.p, sA m⟩
theorem PSm.x {m : MS} (h : PSm X W st m) : ∃ t, PS X st t ∧ SimS X.K W t m := ⟨_, h.p, sS m⟩
theorem PSsm.x {m : MS} (h : PSsm X W sts m) : ∃ t, PSs X sts t ∧ SimS X.K W t m := ⟨_, h.p, sS m⟩
theorem PGm.x {m : MG} (h : PGm X e m) : ∃ t, PG X e t ∧ SimG X.K W t m := ⟨_, h.p, sG m⟩
end
end Mi

set_option maxRecDepth 100000
set_option maxHeartbeats 4000000
/-! Expressions. -/
namespace Mi
open PySem PySem.Spec L2

/-! ### meanings -/
def mVar (i : Nat) : ME := fun ρ h => match ρ[i]? with
  | some (some d) => .ok d h
  | _ => .bad
def mC (d : AV) : ME := fun _ h => .ok d h
abbrev F2 := AV → AV → AHeap → Option AV
abbrev F1 := AV → AHeap → Option AV
def mOp (f : F2) (a b : ME) : ME := fun ρ h => match a ρ h with
  | .bad => .bad
  | .exc e h1 => .exc e h1
  | .ok x h1 => match b ρ h1 with
    | .bad => .bad
    | .exc e h2 => .exc e h2
    | .ok y h2 => match f x y h2 with
      | none => .bad
      | some z => .ok z h2
def mUn (f : F1) (a : ME) : ME := fun ρ h => match a ρ h with
  | .bad => .bad
  | .exc e h1 => .exc e h1
  | .ok x h1 => match f x h1 with
    | none => .bad
    | some z => .ok z h1
/-- a value that is a bool, as a test -/
def mTst (a : ME) : MT := fun ρ h => match a ρ h with
  | .bad => .bad
  | .exc e h1 => .exc e h1
  | .ok (.bl b) h1 => .ok b h1
  | .ok _ _ => .bad
def mIf (t : MT) (a b : ME) : ME := fun ρ h => match t ρ h with
  | .bad => .bad
  | .exc e h1 => .exc e h1
  | .ok c h1 => if c = true then a ρ h1 else b ρ h1
def mAndV (a b : ME) : ME := fun ρ h => match a ρ h with
  | .bad => .bad
  | .exc e h1 => .exc e h1
  | .ok (.bl c) h1 => if c = true then b ρ h1 else .ok (.bl false) h1
  | .ok _ _ => .bad
def mOrV (a b : ME) : ME := fun ρ h => match a ρ h with
  | .bad => .bad
  | .exc e h1 => .exc e h1
  | .ok (.bl c) h1 => if c = true then .ok (.bl true) h1 else b ρ h1
  | .ok _ _ => .bad
def mNotV (a : ME) : ME := fun ρ h => match a ρ h with
  | .bad => .bad
  | .exc e h1 => .exc e h1
  | .ok (.bl c) h1 => .ok (.bl (!c)) h1
  | .ok _ _ => .bad
def mAnd (a b : MT) : MT := fun ρ h => match a ρ h with
  | .bad => .bad
  | .exc e h1 => .exc e h1
  | .ok c h1 => if c = true then b ρ h1 else .ok false h1
def mOr (a b : MT) : MT := fun ρ h => match a ρ h with
  | .bad => .bad
  | .exc e h1 => .exc e h1
  | .ok c h1 => if c = true then .ok true h1 else b ρ h1
def mNot (a : MT) : MT := fun ρ h => match a ρ h with
  | .bad => .bad
  | .exc e h1 => .exc e h1
  | .ok c h1 => .ok (!c) h1
def mNil : MA := fun _ h => .ok [] h
def mCons (a : ME) (r : MA) : MA := fun ρ h => match a ρ h with
  | .bad => .bad
  | .exc e h1 => .exc e h1
  | .ok x h1 => match r ρ h1 with
    | .bad => .bad
    | .exc e h2 => .exc e h2
    | .ok l h2 => .ok (x :: l) h2
/-- a written tuple; a written list that never changes; one that changes -/
def mTup (a : MA) : ME := fun ρ h => match a ρ h with
  | .bad => .bad
  | .exc e h1 => .exc e h1
  | .ok l h1 => if l.length ≤ sizeLine then .ok (.tup l) h1 else .bad
def mLst (a : MA) : ME := fun ρ h => match a ρ h with
  | .bad => .bad
  | .exc e h1 => .exc e h1
  | .ok l h1 => if l.length ≤ sizeLine then .ok (.lst l) h1 else .bad
def mLstC (a : MA) : ME := fun ρ h => match a ρ h with
  | .bad => .bad
  | .exc e h1 => .exc e h1
  | .ok l h1 => if l.length ≤ sizeLine then .ok (.ref h1.length) (h1 ++ [some (.lst l)]) else .bad

/-! ### moving along -/
section
variable {K : PySem.W.Frag} {W : WX2} {σ : St} {ρ : Env2} {h h' : AHeap} {G G' : Hp} {μ μ' : List Addr} {e : Exc}
theorem ExcK.mono (x : Ext G μ G' μ') (k : ExcK K W e σ ρ h G μ) : ExcK K W e σ ρ h G' μ' := fun d H' G2 μ2 r y q => k d H' G2 μ2 r (x.trans y) q
end

/-! ### rules on values -/
/-- a two-place operation -/
def SimR (K : PySem.W.Frag) (r : R2) (f : F2) : Prop := ∀ H h G μ, RelH K H h G μ → ∀ x y v u, R K μ G x v → R K μ G y u → ∀ Q : VK, ∀ z, f x y h = some z → (∀ w H' G', RelH K H' h G' μ → Ext G μ G' μ → R K μ G' z w → Q w H') → r v u H Q
def SimU (K : PySem.W.Frag) (r : V → Hp → VK → Prop) (f : F1) : Prop := ∀ H h G μ, RelH K H h G μ → ∀ x v, R K μ G x v → ∀ Q : VK, ∀ z, f x h = some z → (∀ w H' G', RelH K H' h G' μ → Ext G μ G' μ → R K μ G' z w → Q w H') → r v H Q
section
variable {K : PySem.W.Frag} {W : WX2} {ta tb : TE} {a b : ME} {tt tu : TT} {m n : MT} {r : R2} {f : F2} {l : TA} {q : MA}
theorem sim_var {i : Nat} : SimE K W (tVar i) (mVar i) := fun σ H ρ h G μ rel Q => by
  unfold mVar
  cases e : ρ[i]? with
  | none => trivial
  | some o =>
    cases o with
    | none => trivial
    | some d =>
      intro k
      obtain ⟨v, e1, r1⟩ := rel.sl.2 i _ e
      exact ⟨v, e1, k v H G μ rel (Ext.refl _ _) r1⟩
theorem sim_c {d : AV} {v : V} (hr : ∀ μ G, R K μ G d v) : SimE K W (tC v) (mC d) := fun σ H ρ h G μ rel Q k => k v H G μ rel (Ext.refl _ _) (hr μ G)
theorem sim_op (ha : SimE K W ta a) (hb : SimE K W tb b) (hr : SimR K r f) : SimE K W (tOp r ta tb) (mOp f a b) := fun σ H ρ h G μ rel Q => by
  unfold mOp
  have A := ha σ H ρ h G μ rel
  cases ea : a ρ h with
  | bad => trivial
  | exc e h1 =>
    rw [ea] at A
    exact A _
  | ok x h1 =>
    rw [ea] at A
    dsimp only
    cases eb : b ρ h1 with
    | bad => trivial
    | exc e h2 =>
      intro k
      refine A _ fun v H1 G1 μ1 r1 x1 rv => ?_
      have B := hb σ H1 ρ h1 G1 μ1 r1 (fun y H2 => r v y H2 Q)
      rw [eb] at B
      exact B (k.mono x1)
    | ok y h2 =>
      dsimp only
      cases ez : f x y h2 with
      | none => trivial
      | some z =>
        intro k
        refine A _ fun v H1 G1 μ1 r1 x1 rv => ?_
        have B := hb σ H1 ρ h1 G1 μ1 r1 (fun y H2 => r v y H2 Q)
        rw [eb] at B
        refine B fun u H2 G2 μ2 r2 x2 ru => ?_
        exact hr H2 h2 G2 μ2 r2.hp x y v u (R.mono x2 rv) ru Q z ez fun w H3 G3 r3 x3 rw' => k w H3 G3 μ2 ⟨r3, r2.sl.mono x3⟩ ((x1.trans x2).trans x3) rw'
theorem sim_un {r : V → Hp → VK → Prop} {f : F1} (ha : SimE K W ta a) (hr : SimU K r f) : SimE K W (tUn r ta) (mUn f a) := fun σ H ρ h G μ rel Q => by
  unfold mUn
  have A := ha σ H ρ h G μ rel
  cases ea : a ρ h with
  | bad => trivial
  | exc e h1 =>
    rw [ea] at A
    exact A _
  | ok x h1 =>
    rw [ea] at A
    dsimp only
    cases ez : f x h1 with
    | none => trivial
    | some z =>
      intro k
      refine A _ fun v H1 G1 μ1 r1 x1 rv => ?_
      exact hr H1 h1 G1 μ1 r1.hp x v rv Q z ez fun w H3 G3 r3 x3 rw' => k w H3 G3 μ1 ⟨r3, r1.sl.mono x3⟩ (x1.trans x3) rw'
/-- a test from a value -/
theorem sim_tst (ha : SimE K W ta a) : SimT K W (tTest ta) (mTst a) := fun σ H ρ h G μ rel Q => by
  unfold mTst
  have A := ha σ H ρ h G μ rel
  cases ea : a ρ h with
  | bad => trivial
  | exc e h1 =>
    rw [ea] at A
    exact A _
  | ok x h1 =>
    rw [ea] at A
    cases x with
    | bl c =>
      intro k
      exact A _ fun v H1 G1 μ1 r1 x1 rv => ⟨c, rv, k H1 G1 μ1 r1 x1⟩
    | _ => trivial
theorem sim_if (ht : SimT K W tt m) (ha : SimE K W ta a) (hb : SimE K W tb b) : SimE K W (tIf tt ta tb) (mIf m a b) := fun σ H ρ h G μ rel Q => by
  unfold mIf
  have A := ht σ H ρ h G μ rel
  cases ea : m ρ h with
  | bad => trivial
  | exc e h1 =>
    rw [ea] at A
    exact A _
  | ok c h1 =>
    rw [ea] at A
    dsimp only
    cases c with
    | true =>
      rw [if_pos rfl]
      cases eb : a ρ h1 with
      | bad => trivial
      | exc e h2 =>
        intro k
        refine A _ fun H1 G1 μ1 r1 x1 => ?_
        have B := ha σ H1 ρ h1 G1 μ1 r1 Q
        rw [eb] at B
        exact B (k.mono x1)
      | ok y h2 =>
        intro k
        refine A _ fun H1 G1 μ1 r1 x1 => ?_
        have B := ha σ H1 ρ h1 G1 μ1 r1 Q
        rw [eb] at B
        exact B fun u H2 G2 μ2 r2 x2 ru => k u H2 G2 μ2 r2 (x1.trans x2) ru
    | false =>
      rw [if_neg Bool.false_ne_true]
      cases eb : b ρ h1 with
      | bad => trivial
      | exc e h2 =>
        intro k
        refine A _ fun H1 G1 μ1 r1 x1 => ?_
        have B := hb σ H1 ρ h1 G1 μ1 r1 Q
        rw [eb] at B
        exact B (k.mono x1)
      | ok y h2 =>
        intro k
        refine A _ fun H1 G1 μ1 r1 x1 => ?_
        have B := hb σ H1 ρ h1 G1 μ1 r1 Q
        rw [eb] at B
        exact B fun u H2 G2 μ2 r2 x2 ru => k u H2 G2 μ2 r2 (x1.trans x2) ru
theorem sim_and (ht : SimT K W tt m) (hu : SimT K W tu n) : SimT K W (tAnd tt tu) (mAnd m n) := fun σ H ρ h G μ rel Q => by
  unfold mAnd
  have A := ht σ H ρ h G μ rel
  cases ea : m ρ h with
  | bad => trivial
  | exc e h1 =>
    rw [ea] at A
    exact A _
  | ok c h1 =>
    rw [ea] at A
    dsimp only
    cases c with
    | true =>
      rw [if_pos rfl]
      cases eb : n ρ h1 with
      | bad => trivial
      | exc e h2 =>
        intro k
        refine A _ fun H1 G1 μ1 r1 x1 => ?_
        have B := hu σ H1 ρ h1 G1 μ1 r1 Q
        rw [eb] at B
        exact B (k.mono x1)
      | ok y h2 =>
        intro k
        refine A _ fun H1 G1 μ1 r1 x1 => ?_
        have B := hu σ H1 ρ h1 G1 μ1 r1 Q
        rw [eb] at B
        exact B fun H2 G2 μ2 r2 x2 => k H2 G2 μ2 r2 (x1.trans x2)
    | false =>
      rw [if_neg Bool.false_ne_true]
      intro k
      exact A _ fun H1 G1 μ1 r1 x1 => k H1 G1 μ1 r1 x1
theorem sim_or (ht : SimT K W tt m) (hu : SimT K W tu n) : SimT K W (tOr tt tu) (mOr m n) := fun σ H ρ h G μ rel Q => by
  unfold mOr
  have A := ht σ H ρ h G μ rel
  cases ea : m ρ h with
  | bad => trivial
  | exc e h1 =>
    rw [ea] at A
    exact A _
  | ok c h1 =>
    rw [ea] at A
    dsimp only
    cases c with
    | false =>
      rw [if_neg Bool.false_ne_true]
      cases eb : n ρ h1 with
      | bad => trivial
      | exc e h2 =>
        intro k
        refine A _ fun H1 G1 μ1 r1 x1 => ?_
        have B := hu σ H1 ρ h1 G1 μ1 r1 Q
        rw [eb] at B
        exact B (k.mono x1)
      | ok y h2 =>
        intro k
        refine A _ fun H1 G1 μ1 r1 x1 => ?_
        have B := hu σ H1 ρ h1 G1 μ1 r1 Q
        rw [eb] at B
        exact B fun H2 G2 μ2 r2 x2 => k H2 G2 μ2 r2 (x1.trans x2)
    | true =>
      rw [if_pos rfl]
      intro k
      exact A _ fun H1 G1 μ1 r1 x1 => k H1 G1 μ1 r1 x1
theorem sim_not (ht : SimT K W tt m) : SimT K W (tNot tt) (mNot m) := fun σ H ρ h G μ rel Q => by
  unfold mNot
  have A := ht σ H ρ h G μ rel
  cases ea : m ρ h with
  | bad => trivial
  | exc e h1 =>
    rw [ea] at A
    exact A _
  | ok c h1 =>
    rw [ea] at A
    intro k
    exact A _ fun H1 G1 μ1 r1 x1 => k H1 G1 μ1 r1 x1
theorem sim_andV (ha : SimE K W ta a) (hb : SimE K W tb b) : SimE K W (tAndV ta tb) (mAndV a b) := fun σ H ρ h G μ rel Q => by
  unfold mAndV
  have A := ha σ H ρ h G μ rel
  cases ea : a ρ h with
  | bad => trivial
  | exc e h1 =>
    rw [ea] at A
    exact A _
  | ok x h1 =>
    rw [ea] at A
    cases x with
    | bl c =>
      dsimp only
      cases c with
      | true =>
        rw [if_pos rfl]
        cases eb : b ρ h1 with
        | bad => trivial
        | exc e h2 =>
          intro k
          refine A _ fun v H1 G1 μ1 r1 x1 rv => ⟨true, rv, ?_⟩
          have B := hb σ H1 ρ h1 G1 μ1 r1 Q
          rw [eb] at B
          exact B (k.mono x1)
        | ok y h2 =>
          intro k
          refine A _ fun v H1 G1 μ1 r1 x1 rv => ⟨true, rv, ?_⟩
          have B := hb σ H1 ρ h1 G1 μ1 r1 Q
          rw [eb] at B
          exact B fun u H2 G2 μ2 r2 x2 ru => k u H2 G2 μ2 r2 (x1.trans x2) ru
      | false =>
        rw [if_neg Bool.false_ne_true]
        intro k
        exact A _ fun v H1 G1 μ1 r1 x1 rv => ⟨false, rv, k _ H1 G1 μ1 r1 x1 rfl⟩
    | _ => trivial
theorem sim_orV (ha : SimE K W ta a) (hb : SimE K W tb b) : SimE K W (tOrV ta tb) (mOrV a b) := fun σ H ρ h G μ rel Q => by
  unfold mOrV
  have A := ha σ H ρ h G μ rel
  cases ea : a ρ h with
  | bad => trivial
  | exc e h1 =>
    rw [ea] at A
    exact A _
  | ok x h1 =>
    rw [ea] at A
    cases x with
    | bl c =>
      dsimp only
      cases c with
      | false =>
        rw [if_neg Bool.false_ne_true]
        cases eb : b ρ h1 with
        | bad => trivial
        | exc e h2 =>
          intro k
          refine A _ fun v H1 G1 μ1 r1 x1 rv => ⟨false, rv, ?_⟩
          have B := hb σ H1 ρ h1 G1 μ1 r1 Q
          rw [eb] at B
          exact B (k.mono x1)
        | ok y h2 =>
          intro k
          refine A _ fun v H1 G1 μ1 r1 x1 rv => ⟨false, rv, ?_⟩
          have B := hb σ H1 ρ h1 G1 μ1 r1 Q
          rw [eb] at B
          exact B fun u H2 G2 μ2 r2 x2 ru => k u H2 G2 μ2 r2 (x1.trans x2) ru
      | true =>
        rw [if_pos rfl]
        intro k
        exact A _ fun v H1 G1 μ1 r1 x1 rv => ⟨true, rv, k _ H1 G1 μ1 r1 x1 rfl⟩
    | _ => trivial
theorem sim_notV (ha : SimE K W ta a) : SimE K W (tNotV ta) (mNotV a) := fun σ H ρ h G μ rel Q => by
  unfold mNotV
  have A := ha σ H ρ h G μ rel
  cases ea : a ρ h with
  | bad => trivial
  | exc e h1 =>
    rw [ea] at A
    exact A _
  | ok x h1 =>
    rw [ea] at A
    cases x with
    | bl c =>
      intro k
      exact A _ fun v H1 G1 μ1 r1 x1 rv => ⟨c, rv, k _ H1 G1 μ1 r1 x1 rfl⟩
    | _ => trivial
theorem sim_nil : SimA K W tNil mNil := fun σ H ρ h G μ rel Q k => k [] H G μ rel (Ext.refl _ _) rfl
theorem sim_cons (ha : SimE K W ta a) (hl : SimA K W l q) : SimA K W (tCons ta l) (mCons a q) := fun σ H ρ h G μ rel Q => by
  unfold mCons
  have A := ha σ H ρ h G μ rel
  cases ea : a ρ h with
  | bad => trivial
  | exc e h1 =>
    rw [ea] at A
    exact A _
  | ok x h1 =>
    rw [ea] at A
    dsimp only
    cases eb : q ρ h1 with
    | bad => trivial
    | exc e h2 =>
      intro k
      refine A _ fun v H1 G1 μ1 r1 x1 rv => ?_
      have B := hl σ H1 ρ h1 G1 μ1 r1 (fun vs H2 => Q (v :: vs) H2)
      rw [eb] at B
      exact B (k.mono x1)
    | ok y h2 =>
      intro k
      refine A _ fun v H1 G1 μ1 r1 x1 rv => ?_
      have B := hl σ H1 ρ h1 G1 μ1 r1 (fun vs H2 => Q (v :: vs) H2)
      rw [eb] at B
      exact B fun vs H2 G2 μ2 r2 x2 rs => k _ H2 G2 μ2 r2 (x1.trans x2) (RL.cons (R.mono x2 rv) rs)
theorem sim_tup (hl : SimA K W l q) : SimE K W (tTup l) (mTup q) := fun σ H ρ h G μ rel Q => by
  unfold mTup
  have A := hl σ H ρ h G μ rel
  cases ea : q ρ h with
  | bad => trivial
  | exc e h1 =>
    rw [ea] at A
    exact A _
  | ok x h1 =>
    rw [ea] at A
    dsimp only
    by_cases hz : x.length ≤ sizeLine
    · rw [if_pos hz]
      intro k
      refine A _ fun vs H1 G1 μ1 r1 x1 rs => ⟨by rw [rs.length]; exact hz, fun p hp => ?_⟩
      obtain ⟨g, y⟩ := r1.hp.grow (o := .tup vs) hp
      exact k _ _ _ μ1 ⟨g, r1.sl.mono y⟩ (x1.trans y) ⟨p, vs, rfl, SqT.of upd_same, RL.mono y rs⟩
    · rw [if_neg hz]
      trivial
theorem sim_lst (hl : SimA K W l q) : SimE K W (tLst l) (mLst q) := fun σ H ρ h G μ rel Q => by
  unfold mLst
  have A := hl σ H ρ h G μ rel
  cases ea : q ρ h with
  | bad => trivial
  | exc e h1 =>
    rw [ea] at A
    exact A _
  | ok x h1 =>
    rw [ea] at A
    dsimp only
    by_cases hz : x.length ≤ sizeLine
    · rw [if_pos hz]
      intro k
      refine A _ fun vs H1 G1 μ1 r1 x1 rs => ⟨by rw [rs.length]; exact hz, fun p hp => ?_⟩
      obtain ⟨g, y⟩ := r1.hp.grow (o := .lst vs) hp
      exact k _ _ _ μ1 ⟨g, r1.sl.mono y⟩ (x1.trans y) ⟨p, vs, rfl, upd_same, RL.mono y rs⟩
    · rw [if_neg hz]
      trivial
theorem sim_lstC (hl : SimA K W l q) : SimE K W (tLst l) (mLstC q) := fun σ H ρ h G μ rel Q => by
  unfold mLstC
  have A := hl σ H ρ h G μ rel
  cases ea : q ρ h with
  | bad => trivial
  | exc e h1 =>
    rw [ea] at A
    exact A _
  | ok x h1 =>
    rw [ea] at A
    dsimp only
    by_cases hz : x.length ≤ sizeLine
    · rw [if_pos hz]
      intro k
      refine A _ fun vs H1 G1 μ1 r1 x1 rs => ⟨by rw [rs.length]; exact hz, fun p hp => ?_⟩
      have x2 : Ext G1 μ1 G1 (μ1 ++ [p]) := ⟨Same.refl _, List.prefix_append _ _⟩
      obtain ⟨g, y⟩ := r1.hp.cell (o := .lst vs) (mo := .lst x) hp ⟨vs, rfl, RL.mono x2 rs⟩
      refine k _ _ _ _ ⟨g, r1.sl.mono y⟩ (x1.trans y) ⟨p, ?_, rfl⟩
      rw [← r1.hp.len, List.getElem?_append_right (Nat.le_refl _), Nat.sub_self]
      rfl
    · rw [if_neg hz]
      trivial
end

/-! ### the rules -/
section
variable {X : Cx} {W : WX2} {a b c : Expr} {ma mb mc : ME} {pos : Pos} {es rest : List Expr} {mt mu : MT}
theorem em_var (i : Nat) {x : Str} (hN : X.N[i]? = some x := by rfl) (hv : Vis X.env.scope x := by first | exact Or.inl rfl | exact Or.inr (Or.inl rfl) | exact Or.inr (Or.inr rfl)) (hd : (x == ("__debug__" : Str)) = false := by decide)
    (hcd : (x == ("__classdict__" : Str)) = false := by decide) : PEm X W (.Name x pos) (mVar i) := .of (pe_var hN hv hd hcd) (sim_var)
theorem em_int {i : Int} {j} : PEm X W (.Constant (.int i) j pos) (mC (.int i)) := .of (pe_int) (sim_c fun _ _ => rfl)
theorem em_bl {i : Bool} {j} : PEm X W (.Constant (.bool i) j pos) (mC (.bl i)) := .of (pe_bl) (sim_c fun _ _ => rfl)
theorem em_non {j} : PEm X W (.Constant .none j pos) (mC .non) := .of (pe_non) (sim_c fun _ _ => rfl)
theorem em_str {i : Str} {j} : PEm X W (.Constant (.str i) j pos) (mC (.str i)) := .of (pe_str) (sim_c fun _ _ => rfl)
theorem em_op {op : Operator} {r : R2} {f : F2} (ho : OpR X (binaryOp op) r) (hs : SimR X.K r f) (ha : PEm X W a ma) (hb : PEm X W b mb) : PEm X W (.BinOp a op b pos) (mOp f ma mb) := by
  obtain ⟨ta, pa, sa⟩ := ha.x
  obtain ⟨tb, pb, sb⟩ := hb.x
  exact .of (pe_op ho pa pb) (sim_op sa sb hs)
theorem em_un {op : UnaryOp} {r : V → Hp → VK → Prop} {f : F1} (ho : UnR X (unaryOp op) r) (hs : SimU X.K r f) (ha : PEm X W a ma) : PEm X W (.UnaryOp op a pos) (mUn f ma) := by
  obtain ⟨ta, pa, sa⟩ := ha.x
  exact .of (pe_un ho pa) (sim_un sa hs)
theorem em_cmp {op : CmpOp} {r : R2} {f : F2} (ho : OpR X (compareOp op) r) (hs : SimR X.K r f) (ha : PEm X W a ma) (hb : PEm X W b mb) (hm : behindInMarks op b = false := by first | exact nomark _ | rfl) : PEm X W (.Compare a [op] [b] pos) (mOp f ma mb) := by
  obtain ⟨ta, pa, sa⟩ := ha.x
  obtain ⟨tb, pb, sb⟩ := hb.x
  exact .of (pe_cmpR ho pa pb hm) (sim_op sa sb hs)
theorem tm_cmp {op : CmpOp} {r : R2} {f : F2} (ho : OpR X (compareOp op) r) (hs : SimR X.K r f) (ha : PEm X W a ma) (hb : PEm X W b mb) (hm : behindInMarks op b = false := by first | exact nomark _ | rfl) : PTm X W (.Compare a [op] [b] pos) (mTst (mOp f ma mb)) := by
  obtain ⟨ta, pa, sa⟩ := ha.x
  obtain ⟨tb, pb, sb⟩ := hb.x
  exact .of (pt_cmpR ho pa pb hm) (sim_tst (sim_op sa sb hs))
theorem tm_val (ha : PEm X W a ma) (he : ∀ whole, isTrue a X.env whole = (do let v ← whole; standAt a.pos; holding [v] (truthy v)) := by intro _; rfl) : PTm X W a (mTst ma) := by
  obtain ⟨ta, pa, sa⟩ := ha.x
  exact .of (pt_val pa he) (sim_tst sa)
theorem em_ifx (hc : PTm X W c mt) (ha : PEm X W a ma) (hb : PEm X W b mb) : PEm X W (.IfExp c a b pos) (mIf mt ma mb) := by
  obtain ⟨tc, pc, sc⟩ := hc.x
  obtain ⟨ta, pa, sa⟩ := ha.x
  obtain ⟨tb, pb, sb⟩ := hb.x
  exact .of (pe_ifExp pc pa pb) (sim_if sc sa sb)
theorem em_not (ha : PEm X W a ma) : PEm X W (.UnaryOp .Not a pos) (mNotV ma) := by
  obtain ⟨ta, pa, sa⟩ := ha.x
  exact .of (pe_not pa) (sim_notV sa)
theorem em_one {op} (ha : PEm X W a ma) : PEm X W (.BoolOp op [a] pos) ma := by
  obtain ⟨ta, pa, sa⟩ := ha.x
  exact .of (pe_one pa) (sa)
theorem em_and (ha : PEm X W a ma) (hb : PEm X W (.BoolOp .And (b :: rest) pos) mb) : PEm X W (.BoolOp .And (a :: b :: rest) pos) (mAndV ma mb) := by
  obtain ⟨ta, pa, sa⟩ := ha.x
  obtain ⟨tb, pb, sb⟩ := hb.x
  exact .of (pe_and pa pb) (sim_andV sa sb)
theorem em_or (ha : PEm X W a ma) (hb : PEm X W (.BoolOp .Or (b :: rest) pos) mb) : PEm X W (.BoolOp .Or (a :: b :: rest) pos) (mOrV ma mb) := by
  obtain ⟨ta, pa, sa⟩ := ha.x
  obtain ⟨tb, pb, sb⟩ := hb.x
  exact .of (pe_or pa pb) (sim_orV sa sb)
theorem wm_and1 (ha : PTm X W a mt) : PWm X W (.BoolOp .And [a] pos) mt := by
  obtain ⟨ta, pa, sa⟩ := ha.x
  exact .of (pw_and1 pa) (sa)
theorem wm_or1 (ha : PTm X W a mt) : PWm X W (.BoolOp .Or [a] pos) mt := by
  obtain ⟨ta, pa, sa⟩ := ha.x
  exact .of (pw_or1 pa) (sa)
theorem wm_and (ha : PTm X W a mt) (hb : PWm X W (.BoolOp .And (b :: rest) pos) mu) : PWm X W (.BoolOp .And (a :: b :: rest) pos) (mAnd mt mu) := by
  obtain ⟨ta, pa, sa⟩ := ha.x
  obtain ⟨tb, pb, sb⟩ := hb.x
  exact .of (pw_and pa pb) (sim_and sa sb)
theorem wm_or (ha : PTm X W a mt) (hb : PWm X W (.BoolOp .Or (b :: rest) pos) mu) : PWm X W (.BoolOp .Or (a :: b :: rest) pos) (mOr mt mu) := by
  obtain ⟨ta, pa, sa⟩ := ha.x
  obtain ⟨tb, pb, sb⟩ := hb.x
  exact .of (pw_or pa pb) (sim_or sa sb)
theorem tm_w (h : PWm X W a mt) : PTm X W a mt := by
  obtain ⟨t, p, s⟩ := h.x
  exact .of p.pt s
theorem tm_not (ha : PTm X W a mt) : PTm X W (.UnaryOp .Not a pos) (mNot mt) := by
  obtain ⟨ta, pa, sa⟩ := ha.x
  exact .of (pt_not pa) (sim_not sa)
theorem am_nil : PAm X W [] mNil := .of (pa_nil) (sim_nil)
theorem am_cons {m : MA} (ha : PEm X W a ma) (hr : PAm X W es m) (hs : starEach (a :: es) X.env = (false, eval a X.env) :: starEach es X.env := by rfl) : PAm X W (a :: es) (mCons ma m) := by
  obtain ⟨ta, pa, sa⟩ := ha.x
  obtain ⟨tb, pb, sb⟩ := hr.x
  exact .of (pa_cons pa pb hs) (sim_cons sa sb)
theorem em_tup {m : MA} {k} (h : PAm X W es m) : PEm X W (.Tuple es k pos) (mTup m) := by
  obtain ⟨t, p, s⟩ := h.x
  exact .of (pe_tup p) (sim_tup s)
theorem em_lst {m : MA} (h : PAm X W es m) : PEm X W (.List es pos) (mLst m) := by
  obtain ⟨t, p, s⟩ := h.x
  exact .of (pe_lst p) (sim_lst s)
theorem em_lstC {m : MA} (h : PAm X W es m) : PEm X W (.List es pos) (mLstC m) := by
  obtain ⟨t, p, s⟩ := h.x
  exact .of (pe_lst p) (sim_lstC s)
/-- two comparisons in a row -/
def mChain (f g : F2) (a b c : ME) : ME := fun ρ h => match a ρ h with
  | .bad => .bad
  | .exc e h1 => .exc e h1
  | .ok x h1 => match b ρ h1 with
    | .bad => .bad
    | .exc e h2 => .exc e h2
    | .ok y h2 => match f x y h2 with
      | some (.bl k) => if k = true then (match c ρ h2 with
        | .bad => .bad
        | .exc e h3 => .exc e h3
        | .ok z h3 => match g y z h3 with
          | none => .bad
          | some w => .ok w h3) else .ok (.bl false) h2
      | _ => .bad
theorem sim_chain {K : PySem.W.Frag} {ta tb tc : TE} {r r' : R2} {f g : F2} (ha : SimE K W ta ma) (hb : SimE K W tb mb) (hc : SimE K W tc mc) (hr : SimR K r f) (hr' : SimR K r' g) : SimE K W (tChain r r' ta tb tc) (mChain f g ma mb mc) := fun σ H ρ h G μ rel Q => by
  unfold mChain
  have A := ha σ H ρ h G μ rel
  cases ea : ma ρ h with
  | bad => trivial
  | exc e h1 =>
    rw [ea] at A
    exact A _
  | ok x h1 =>
    rw [ea] at A
    dsimp only
    cases eb : mb ρ h1 with
    | bad => trivial
    | exc e h2 =>
      intro k
      refine A _ fun v H1 G1 μ1 r1 x1 rv => ?_
      have B := hb σ H1 ρ h1 G1 μ1 r1 (fun y H2 => r v y H2 fun z H3 => ∃ k, z = .bl k ∧ (if k = true then tc σ H3 fun w' H4 => r' y w' H4 Q else Q (.bl false) H3))
      rw [eb] at B
      exact B (k.mono x1)
    | ok y h2 =>
      dsimp only
      cases ez : f x y h2 with
      | none => trivial
      | some z =>
        cases z with
        | bl kk =>
          dsimp only
          cases kk with
          | false =>
            rw [if_neg Bool.false_ne_true]
            intro k
            refine A _ fun v H1 G1 μ1 r1 x1 rv => ?_
            have B := hb σ H1 ρ h1 G1 μ1 r1 (fun y H2 => r v y H2 fun z H3 => ∃ k, z = .bl k ∧ (if k = true then tc σ H3 fun w' H4 => r' y w' H4 Q else Q (.bl false) H3))
            rw [eb] at B
            refine B fun u H2 G2 μ2 r2 x2 ru => ?_
            refine hr H2 h2 G2 μ2 r2.hp x y v u (R.mono x2 rv) ru _ _ ez fun w H3 G3 r3 x3 rw' => ⟨false, rw', ?_⟩
            rw [if_neg Bool.false_ne_true]
            exact k _ H3 G3 μ2 ⟨r3, r2.sl.mono x3⟩ ((x1.trans x2).trans x3) rfl
          | true =>
            rw [if_pos rfl]
            cases ec : mc ρ h2 with
            | bad => trivial
            | exc e h3 =>
              intro k
              refine A _ fun v H1 G1 μ1 r1 x1 rv => ?_
              have B := hb σ H1 ρ h1 G1 μ1 r1 (fun y H2 => r v y H2 fun z H3 => ∃ k, z = .bl k ∧ (if k = true then tc σ H3 fun w' H4 => r' y w' H4 Q else Q (.bl false) H3))
              rw [eb] at B
              refine B fun u H2 G2 μ2 r2 x2 ru => ?_
              refine hr H2 h2 G2 μ2 r2.hp x y v u (R.mono x2 rv) ru _ _ ez fun w H3 G3 r3 x3 rw' => ⟨true, rw', ?_⟩
              rw [if_pos rfl]
              have C := hc σ H3 ρ h2 G3 μ2 ⟨r3, r2.sl.mono x3⟩ (fun w' H4 => r' u w' H4 Q)
              rw [ec] at C
              exact C (k.mono ((x1.trans x2).trans x3))
            | ok z h3 =>
              dsimp only
              cases eg : g y z h3 with
              | none => trivial
              | some w0 =>
                intro k
                refine A _ fun v H1 G1 μ1 r1 x1 rv => ?_
                have B := hb σ H1 ρ h1 G1 μ1 r1 (fun y H2 => r v y H2 fun z H3 => ∃ k, z = .bl k ∧ (if k = true then tc σ H3 fun w' H4 => r' y w' H4 Q else Q (.bl false) H3))
                rw [eb] at B
                refine B fun u H2 G2 μ2 r2 x2 ru => ?_
                refine hr H2 h2 G2 μ2 r2.hp x y v u (R.mono x2 rv) ru _ _ ez fun w H3 G3 r3 x3 rw' => ⟨true, rw', ?_⟩
                rw [if_pos rfl]
                have C := hc σ H3 ρ h2 G3 μ2 ⟨r3, r2.sl.mono x3⟩ (fun w' H4 => r' u w' H4 Q)
                rw [ec] at C
                refine C fun w' H4 G4 μ4 r4 x4 rw4 => ?_
                exact hr' H4 h3 G4 μ4 r4.hp y z u w' (R.mono x4 (R.mono x3 ru)) rw4 Q w0 eg fun w5 H5 G5 r5 x5 rw5 => k w5 H5 G5 μ4 ⟨r5, r4.sl.mono x5⟩ ((((x1.trans x2).trans x3).trans x4).trans x5) rw5
        | _ => trivial
theorem em_chain {op op' : CmpOp} {r r' : R2} {f g : F2} (ho : OpR X (compareOp op) r) (hs : SimR X.K r f) (ho' : OpR X (compareOp op') r') (hs' : SimR X.K r' g) (ha : PEm X W a ma) (hb : PEm X W b mb) (hc : PEm X W c mc)
    (hm : lastMarks [op, op'] [b, c] = false := by with_unfolding_all rfl) : PEm X W (.Compare a [op, op'] [b, c] pos) (mChain f g ma mb mc) := by
  obtain ⟨ta, pa, sa⟩ := ha.x
  obtain ⟨tb, pb, sb⟩ := hb.x
  obtain ⟨tc, pc, sc⟩ := hc.x
  exact .of (pe_chain ho ho' pa pb pc hm) (sim_chain sa sb sc hs hs')
theorem tm_chain {op op' : CmpOp} {r r' : R2} {f g : F2} (ho : OpR X (compareOp op) r) (hs : SimR X.K r f) (ho' : OpR X (compareOp op') r') (hs' : SimR X.K r' g) (ha : PEm X W a ma) (hb : PEm X W b mb) (hc : PEm X W c mc)
    (hm : lastMarks [op, op'] [b, c] = false := by with_unfolding_all rfl) : PTm X W (.Compare a [op, op'] [b, c] pos) (mTst (mChain f g ma mb mc)) := by
  obtain ⟨ta, pa, sa⟩ := ha.x
  obtain ⟨tb, pb, sb⟩ := hb.x
  obtain ⟨tc, pc, sc⟩ := hc.x
  exact .of (pt_chain ho ho' pa pb pc hm) (sim_tst (sim_chain sa sb sc hs hs'))
end
end Mi

set_option maxRecDepth 100000
set_option maxHeartbeats 4000000
/-! Operations on values. -/
namespace Mi
open PySem PySem.Spec L2
theorem OpR.or {X : Cx} {f : Value → Value → Sem Value} {r r' : R2} (h : OpR X f r) (h' : OpR X f r') : OpR X f (fun x y H Q => r x y H Q ∨ r' x y H Q) := by
  intro pins s σ H x y v u Q I rx ry q
  rcases q with q | q
  · exact h pins s σ H x y v u Q I rx ry q
  · exact h' pins s σ H x y v u Q I rx ry q
theorem IxR.or {X : Cx} {r r' : R2} (h : IxR X r) (h' : IxR X r') : IxR X (fun x y H Q => r x y H Q ∨ r' x y H Q) := by
  intro a b pins s σ H x y v u Q I rx ry q hs
  rcases q with q | q
  · exact h a b pins s σ H x y v u Q I rx ry q hs
  · exact h' a b pins s σ H x y v u Q I rx ry q hs

/-! ### arithmetic -/
def aAdd : F2 := fun x y _ => match x, y with
  | .int i, .int j => some (.int (i + j))
  | .tup l, .tup m => if l.length + m.length ≤ sizeLine then some (.tup (l ++ m)) else none
  | .lst l, .lst m => if l.length + m.length ≤ sizeLine then some (.lst (l ++ m)) else none
  | .str i, .str j => if i.length + j.length ≤ sizeLine then some (.str (i ++ j)) else none
  | _, _ => none
def aSub : F2 := fun x y _ => match x, y with
  | .int i, .int j => some (.int (i - j))
  | _, _ => none
def mulOk (i j : Int) : Bool := !(decide (Builtin.Int.intBits i > shortFactorBits) && decide (Builtin.Int.intBits j > shortFactorBits) && Builtin.Int.intTooBig (Builtin.Int.intBits i + Builtin.Int.intBits j))
def aMul : F2 := fun x y _ => match x, y with
  | .int i, .int j => if mulOk i j = true then some (.int (i * j)) else none
  | _, _ => none
def aMod : F2 := fun x y _ => match x, y with
  | .int i, .int j => if j = 0 then none else some (.int (i.fmod j))
  | _, _ => none
def divOk (i j : Int) : Bool := decide (j ≠ 0) && !Builtin.divisionGoesByPylong i j
def aFdiv : F2 := fun x y _ => match x, y with
  | .int i, .int j => if divOk i j = true then some (.int (i.fdiv j)) else none
  | _, _ => none
def aPow : F2 := fun x y _ => match x, y with
  | .int i, .int j => if 0 ≤ j ∧ j ≤ 1000000 ∧ i.natAbs < 2 ^ 64 then some (.int (i ^ j.toNat)) else none
  | _, _ => none
def aCmp (p : Int → Int → Bool) : F2 := fun x y _ => match x, y with
  | .int i, .int j => some (.bl (p i j))
  | _, _ => none
abbrev aLt : F2 := aCmp fun i j => decide (i < j)
abbrev aLe : F2 := aCmp fun i j => decide (i ≤ j)
abbrev aGt : F2 := aCmp fun i j => decide (j < i)
abbrev aGe : F2 := aCmp fun i j => decide (j ≤ i)
def aNeg : F1 := fun x _ => match x with
  | .int i => some (.int (-i))
  | _ => none
def rAddX (K : PySem.W.Frag) : R2 := fun x y H Q => ((rI0 (fun i j => .int (i + j)) x y H Q ∨ rCatA K x y H Q) ∨ rCat x y H Q) ∨ (∃ i j, x = .str i ∧ y = .str j ∧ i.length + j.length ≤ sizeLine ∧ Q (.str (i ++ j)) H)
theorem op_addX {X : Cx} : OpR X (binaryOp .Add) (rAddX X.K) := OpR.or (OpR.or (OpR.or op_add op_catA) op_cat) op_add_str
theorem op_mulX' {X : Cx} : OpR X (binaryOp .Mult) (rI (fun i j => mulOk i j = true) fun i j => .int (i * j)) := opI fun i j _ _ _ _ _ hc q => PyProof.Rows.mul_int q (by
  unfold IntMulOk
  unfold mulOk at hc
  intro z
  rw [z] at hc
  cases hc)
theorem op_fdivX {X : Cx} : OpR X (binaryOp .FloorDiv) (rI (fun i j => divOk i j = true) fun i j => .int (i.fdiv j)) := opI fun i j _ _ _ _ _ hc q => by
  unfold divOk at hc
  rw [Bool.and_eq_true] at hc
  exact PyProof.Rows.floordiv_int (of_decide_eq_true hc.1) q (.inl (by
    have h2 := hc.2
    revert h2
    cases Builtin.divisionGoesByPylong i j
    · exact fun _ => rfl
    · exact fun z => by cases z))
section
variable {K : PySem.W.Frag}
theorem sr_I0 {g : Int → Int → Int} : SimR K (rI0 fun i j => .int (g i j)) (fun x y _ => match x, y with
  | .int i, .int j => some (.int (g i j))
  | _, _ => none) := fun H h G μ rh x y v u rx ry Q z e k => by
  cases x <;> try cases e
  cases y <;> try cases e
  exact ⟨_, _, rx, ry, k _ H G rh (Ext.refl _ _) rfl⟩
theorem sr_cmp {p : Int → Int → Bool} : SimR K (rI0 fun i j => .bl (p i j)) (aCmp p) := fun H h G μ rh x y v u rx ry Q z e k => by
  cases x <;> try cases e
  cases y <;> try cases e
  exact ⟨_, _, rx, ry, k _ H G rh (Ext.refl _ _) rfl⟩
theorem sr_sub : SimR K (rI0 fun i j => .int (i - j)) aSub := sr_I0
theorem sr_mul : SimR K (rI (fun i j => mulOk i j = true) fun i j => .int (i * j)) aMul := fun H h G μ rh x y v u rx ry Q z e k => by
  cases x <;> try cases e
  cases y <;> try cases e
  rename_i i j
  by_cases hc : mulOk i j = true
  · have e' : (if mulOk i j = true then some (AV.int (i * j)) else none) = some z := e
    rw [if_pos hc] at e'
    cases e'
    exact ⟨_, _, rx, ry, hc, k _ H G rh (Ext.refl _ _) rfl⟩
  · have e' : (if mulOk i j = true then some (AV.int (i * j)) else none) = some z := e
    rw [if_neg hc] at e'
    cases e'
theorem sr_mod : SimR K (rI (fun _ j => j ≠ 0) fun i j => .int (i.fmod j)) aMod := fun H h G μ rh x y v u rx ry Q z e k => by
  cases x <;> try cases e
  cases y <;> try cases e
  rename_i i j
  have e' : (if j = 0 then none else some (AV.int (i.fmod j))) = some z := e
  by_cases hc : j = 0
  · rw [if_pos hc] at e'
    cases e'
  · rw [if_neg hc] at e'
    cases e'
    exact ⟨_, _, rx, ry, hc, k _ H G rh (Ext.refl _ _) rfl⟩
theorem sr_fdiv : SimR K (rI (fun i j => divOk i j = true) fun i j => .int (i.fdiv j)) aFdiv := fun H h G μ rh x y v u rx ry Q z e k => by
  cases x <;> try cases e
  cases y <;> try cases e
  rename_i i j
  have e' : (if divOk i j = true then some (AV.int (i.fdiv j)) else none) = some z := e
  by_cases hc : divOk i j = true
  · rw [if_pos hc] at e'
    cases e'
    exact ⟨_, _, rx, ry, hc, k _ H G rh (Ext.refl _ _) rfl⟩
  · rw [if_neg hc] at e'
    cases e'
theorem sr_pow : SimR K (rI CPow fun i j => .int (i ^ j.toNat)) aPow := fun H h G μ rh x y v u rx ry Q z e k => by
  cases x <;> try cases e
  cases y <;> try cases e
  rename_i i j
  have e' : (if 0 ≤ j ∧ j ≤ 1000000 ∧ i.natAbs < 2 ^ 64 then some (AV.int (i ^ j.toNat)) else none) = some z := e
  by_cases hc : 0 ≤ j ∧ j ≤ 1000000 ∧ i.natAbs < 2 ^ 64
  · rw [if_pos hc] at e'
    cases e'
    exact ⟨_, _, rx, ry, hc, k _ H G rh (Ext.refl _ _) rfl⟩
  · rw [if_neg hc] at e'
    cases e'
theorem su_neg : SimU K (rU fun i => .int (-i)) aNeg := fun H h G μ rh x v rx Q z e k => by
  cases x <;> try cases e
  exact ⟨_, rx, k _ H G rh (Ext.refl _ _) rfl⟩
theorem same_sqT {G H : Hp} {a : Addr} {vs : List V} (s : Same G H) (h : SqT K G a vs) : SqT K H a vs := Same.sqt s h
theorem sr_add : SimR K (rAddX K) aAdd := fun H h G μ rh x y v u rx ry Q z e k => by
  cases x with
  | int i =>
    cases y <;> try cases e
    exact .inl (.inl (.inl ⟨_, _, rx, ry, k _ H G rh (Ext.refl _ _) rfl⟩))
  | str i =>
    cases y <;> try cases e
    rename_i j
    have e' : (if i.length + j.length ≤ sizeLine then some (AV.str (i ++ j)) else none) = some z := e
    by_cases hc : i.length + j.length ≤ sizeLine
    · rw [if_pos hc] at e'
      cases e'
      exact .inr ⟨_, _, rx, ry, hc, k _ H G rh (Ext.refl _ _) rfl⟩
    · rw [if_neg hc] at e'
      cases e'
  | tup l =>
    cases y <;> try cases e
    rename_i m
    have e' : (if l.length + m.length ≤ sizeLine then some (AV.tup (l ++ m)) else none) = some z := e
    by_cases hc : l.length + m.length ≤ sizeLine
    · rw [if_pos hc] at e'
      cases e'
      obtain ⟨a, vs, ea, sa, ra⟩ := rx
      obtain ⟨b, us, eb, sb, rb⟩ := ry
      refine .inl (.inl (.inr ⟨a, b, vs, us, ea, eb, same_sqT rh.ex sa, same_sqT rh.ex sb, by rw [ra.length, rb.length]; exact hc, fun h0 => ?_, fun h1 h0 => ?_, fun h1 h2 p hp => ?_⟩))
      · refine k _ H G rh (Ext.refl _ _) ⟨b, us, rfl, sb, ?_⟩
        have hl : l = [] := List.eq_nil_of_length_eq_zero (by rw [← ra.length, h0]; rfl)
        rw [hl]
        exact rb
      · refine k _ H G rh (Ext.refl _ _) ⟨a, vs, rfl, sa, ?_⟩
        have hl : m = [] := List.eq_nil_of_length_eq_zero (by rw [← rb.length, h0]; rfl)
        rw [hl, List.append_nil]
        exact ra
      · obtain ⟨g, x2⟩ := rh.grow (o := .tup (vs ++ us)) hp
        exact k _ _ _ g x2 ⟨p, _, rfl, SqT.of upd_same, RL.mono x2 (RL.app ra rb)⟩
    · rw [if_neg hc] at e'
      cases e'
  | lst l =>
    cases y <;> try cases e
    rename_i m
    have e' : (if l.length + m.length ≤ sizeLine then some (AV.lst (l ++ m)) else none) = some z := e
    by_cases hc : l.length + m.length ≤ sizeLine
    · rw [if_pos hc] at e'
      cases e'
      obtain ⟨a, vs, ea, sa, ra⟩ := rx
      obtain ⟨b, us, eb, sb, rb⟩ := ry
      refine .inl (.inr ⟨a, b, vs, us, ea, eb, rh.ex _ _ sa, rh.ex _ _ sb, by rw [ra.length, rb.length]; exact hc, fun p hp => ?_⟩)
      obtain ⟨g, x2⟩ := rh.grow (o := .lst (vs ++ us)) hp
      exact k _ _ _ g x2 ⟨p, _, rfl, upd_same, RL.mono x2 (RL.app ra rb)⟩
    · rw [if_neg hc] at e'
      cases e'
  | _ => cases e

/-! ### the items of a list or a tuple -/
def isT : AV → Bool
  | .tup _ => true
  | _ => false
def getL (h : AHeap) : AV → Option (List AV)
  | .tup l => some l
  | .lst l => some l
  | .lstR l => some l
  | .ref i => match h[i]? with
    | some (some (.lst l)) => some l
    | _ => none
  | _ => none
theorem getL_sq {H : Hp} {h : AHeap} {G : Hp} {μ : List Addr} {x : AV} {v : V} {l : List AV} (rh : RelH K H h G μ) (r : R K μ G x v) (e : getL h x = some l) :
    ∃ a vs, v = .ref a ∧ RL K μ G l vs ∧ ((isT x = true ∧ SqT K H a vs ∧ SqT K G a vs) ∨ (isT x = false ∧ SqL K H a vs)) := by
  cases x with
  | tup m =>
    cases e
    obtain ⟨a, vs, ea, sa, ra⟩ := r
    exact ⟨a, vs, ea, ra, .inl ⟨rfl, same_sqT rh.ex sa, sa⟩⟩
  | lst m =>
    cases e
    obtain ⟨a, vs, ea, sa, ra⟩ := r
    exact ⟨a, vs, ea, ra, .inr ⟨rfl, SqL.of (rh.ex _ _ sa)⟩⟩
  | lstR m =>
    cases e
    obtain ⟨a, vs, ea, sa, ra⟩ := r
    exact ⟨a, vs, ea, ra, .inr ⟨rfl, rh.ex.seq sa⟩⟩
  | ref i =>
    have e' : (match h[i]? with
      | some (some (.lst l)) => some l
      | _ => none) = some l := e
    cases q : h[i]? with
    | none =>
      rw [q] at e'
      cases e'
    | some o =>
      rw [q] at e'
      cases o with
      | none => cases e'
      | some mo =>
        cases mo with
        | ins c ks m => cases e'
        | lst m =>
          cases e'
          obtain ⟨a, e1, e2, vs, e3, e4⟩ := rh.cont i _ q
          obtain ⟨b, f1, f2⟩ := r
          rw [e1] at f1
          cases f1
          exact ⟨a, vs, f2, e4, .inr ⟨rfl, SqL.of e3⟩⟩
  | _ => cases e
def aAt (l : List AV) (i : Int) : Option AV := (ixN l.length i).bind fun j => l[j]?
def aIx : F2 := fun x y h => match getL h x, y with
  | some l, .int i => aAt l i
  | _, _ => none
theorem aAt_rel {μ : List Addr} {G : Hp} {l : List AV} {vs : List V} {i : Int} {z : AV} (r : RL K μ G l vs) (e : aAt l i = some z) : ∃ w, atI vs i = some w ∧ R K μ G z w := by
  unfold aAt at e
  unfold atI
  rw [r.length]
  cases q : ixN l.length i with
  | none =>
    rw [q] at e
    cases e
  | some j =>
    rw [q] at e
    exact r.get e
theorem sr_ix : SimR K (fun x y H Q => rIxL K x y H Q ∨ rIxT K x y H Q) aIx := fun H h G μ rh x y v u rx ry Q z e k => by
  unfold aIx at e
  cases el : getL h x with
  | none =>
    rw [el] at e
    cases e
  | some l =>
    rw [el] at e
    cases y <;> try cases e
    rename_i i
    obtain ⟨a, vs, ea, ra, s⟩ := getL_sq rh rx el
    obtain ⟨w, e1, r1⟩ := aAt_rel ra e
    rcases s with ⟨_, s, _⟩ | ⟨_, s⟩
    · exact .inr ⟨a, vs, i, w, ea, ry, s, e1, k _ H G rh (Ext.refl _ _) r1⟩
    · exact .inl ⟨a, vs, i, w, ea, ry, s, e1, k _ H G rh (Ext.refl _ _) r1⟩
theorem ix_LT {X : Cx} : IxR X (fun x y H Q => rIxL X.K x y H Q ∨ rIxT X.K x y H Q) := IxR.or ix_list ix_tup

/-! ### slices -/
def cutA (l : List AV) (lo hi : Option Int) : List AV := (l.drop (HT.sIx l.length 0 lo)).take (HT.sIx l.length l.length hi - HT.sIx l.length 0 lo)
def aSl (x : AV) (lo hi : Option Int) (h : AHeap) : Option AV := match getL h x with
  | some l => if isT x = true then some (.tup (cutA l lo hi)) else some (.lst (cutA l lo hi))
  | none => none

/-! ### equality of data -/
mutual
def py0 : AV → Option PyData
  | .non => some .none
  | .bl b => some (.bool b)
  | .int i => some (.int i)
  | .str x => some (.str x)
  | .tup l => match py0L l with
    | some d => some (.tuple d)
    | none => none
  | .lst l => match py0L l with
    | some d => some (.list d)
    | none => none
  | .lstR l => match py0L l with
    | some d => some (.list d)
    | none => none
  | _ => none
def py0L : List AV → Option (List PyData)
  | [] => some []
  | x :: l => match py0 x, py0L l with
    | some d, some ds => some (d :: ds)
    | _, _ => none
end
def py (h : AHeap) : AV → Option PyData
  | .ref i => match h[i]? with
    | some (some (.lst l)) => (match py0L l with
      | some d => some (.list d)
      | none => none)
    | _ => none
  | x => py0 x
mutual
theorem py0_dp {G H : Hp} {μ : List Addr} (s : Same G H) : ∀ {x : AV} {v : V} {d : PyData}, R K μ G x v → py0 x = some d → Dp K H v d
  | .non, v, d, r, e => by
    cases e
    have r' : v = .non := r
    rw [r']
    exact .non
  | .bl b, v, d, r, e => by
    cases e
    have r' : v = .bl b := r
    rw [r']
    exact .bl b
  | .int b, v, d, r, e => by
    cases e
    have r' : v = .int b := r
    rw [r']
    exact .int b
  | .str b, v, d, r, e => by
    cases e
    have r' : v = .str b := r
    rw [r']
    exact .str b
  | .tup l, v, d, r, e => by
    have e' : (match py0L l with
      | some d => some (PyData.tuple d)
      | none => none) = some d := e
    cases q : py0L l with
    | none =>
      rw [q] at e'
      cases e'
    | some ds =>
      rw [q] at e'
      cases e'
      obtain ⟨a, vs, ea, sa, ra⟩ := r
      rw [ea]
      exact .tup (same_sqT s sa) (py0L_dp s ra q)
  | .lst l, v, d, r, e => by
    have e' : (match py0L l with
      | some d => some (PyData.list d)
      | none => none) = some d := e
    cases q : py0L l with
    | none =>
      rw [q] at e'
      cases e'
    | some ds =>
      rw [q] at e'
      cases e'
      obtain ⟨a, vs, ea, sa, ra⟩ := r
      rw [ea]
      exact .lst (SqL.of (s _ _ sa)) (py0L_dp s ra q)
  | .lstR l, v, d, r, e => by
    have e' : (match py0L l with
      | some d => some (PyData.list d)
      | none => none) = some d := e
    cases q : py0L l with
    | none =>
      rw [q] at e'
      cases e'
    | some ds =>
      rw [q] at e'
      cases e'
      obtain ⟨a, vs, ea, sa, ra⟩ := r
      rw [ea]
      exact .lst (s.seq sa) (py0L_dp s ra q)
  | .ty n, _, _, _, e => by cases e
  | .obj c ks l, _, _, _, e => by cases e
  | .ref i, _, _, _, e => by cases e
theorem py0L_dp {G H : Hp} {μ : List Addr} (s : Same G H) : ∀ {l : List AV} {vs : List V} {ds : List PyData}, RL K μ G l vs → py0L l = some ds → DpAll K H vs ds
  | [], vs, ds, r, e => by
    cases e
    have r' : vs = [] := r
    rw [r']
    exact .nil
  | x :: l, vs, ds, r, e => by
    have e' : (match py0 x, py0L l with
      | some d, some ds => some (d :: ds)
      | _, _ => none) = some ds := e
    cases q : py0 x with
    | none =>
      rw [q] at e'
      cases e'
    | some d =>
      cases q2 : py0L l with
      | none =>
        rw [q, q2] at e'
        cases e'
      | some ds' =>
        rw [q, q2] at e'
        cases e'
        obtain ⟨v, t, ev, r1, r2⟩ := r.inv
        rw [ev]
        exact .cons (py0_dp s r1 q) (py0L_dp s r2 q2)
end
theorem py_dp {H : Hp} {h : AHeap} {G : Hp} {μ : List Addr} {x : AV} {v : V} {d : PyData} (rh : RelH K H h G μ) (r : R K μ G x v) (e : py h x = some d) : Dp K H v d := by
  cases x with
  | ref i =>
    have e' : (match h[i]? with
      | some (some (.lst l)) => (match py0L l with
        | some d => some (PyData.list d)
        | none => none)
      | _ => none) = some d := e
    cases q : h[i]? with
    | none =>
      rw [q] at e'
      cases e'
    | some o =>
      rw [q] at e'
      cases o with
      | none => cases e'
      | some mo =>
        cases mo with
        | ins c ks m => cases e'
        | lst m =>
          dsimp only at e'
          cases q2 : py0L m with
          | none =>
            rw [q2] at e'
            cases e'
          | some ds =>
            rw [q2] at e'
            cases e'
            obtain ⟨a, e1, e2, vs, e3, e4⟩ := rh.cont i _ q
            obtain ⟨b, f1, f2⟩ := r
            rw [e1] at f1
            cases f1
            rw [f2]
            exact .lst (SqL.of e3) (py0L_dp rh.ex e4 q2)
  | _ => exact py0_dp rh.ex r e
def aEq : F2 := fun x y h => match py h x, py h y with
  | some d, some e => if SeqAt.shaped d = true ∧ SeqAt.shaped e = true then some (.bl (PyData.eqv d e)) else none
  | _, _ => none
def aNe : F2 := fun x y h => match py h x, py h y with
  | some d, some e => if SeqAt.shaped d = true ∧ SeqAt.shaped e = true then some (.bl (!PyData.eqv d e)) else none
  | _, _ => none
theorem sr_eq : SimR K (rEqD K) aEq := fun H h G μ rh x y v u rx ry Q z e k => by
  unfold aEq at e
  cases ex : py h x with
  | none =>
    rw [ex] at e
    cases e
  | some d =>
    cases ey : py h y with
    | none =>
      rw [ex, ey] at e
      cases e
    | some d' =>
      rw [ex, ey] at e
      dsimp only at e
      by_cases hc : SeqAt.shaped d = true ∧ SeqAt.shaped d' = true
      · rw [if_pos hc] at e
        cases e
        exact ⟨d, d', py_dp rh rx ex, py_dp rh ry ey, hc.1, hc.2, k _ H G rh (Ext.refl _ _) rfl⟩
      · rw [if_neg hc] at e
        cases e
theorem sr_ne : SimR K (rNeD K) aNe := fun H h G μ rh x y v u rx ry Q z e k => by
  unfold aNe at e
  cases ex : py h x with
  | none =>
    rw [ex] at e
    cases e
  | some d =>
    cases ey : py h y with
    | none =>
      rw [ex, ey] at e
      cases e
    | some d' =>
      rw [ex, ey] at e
      dsimp only at e
      by_cases hc : SeqAt.shaped d = true ∧ SeqAt.shaped d' = true
      · rw [if_pos hc] at e
        cases e
        exact ⟨d, d', py_dp rh rx ex, py_dp rh ry ey, hc.1, hc.2, k _ H G rh (Ext.refl _ _) rfl⟩
      · rw [if_neg hc] at e
        cases e

/-! ### is, is not -/
def isN : AV → Bool
  | .non => true
  | _ => false
theorem isN_rel {μ : List Addr} {G : Hp} {x : AV} {v : V} (r : R K μ G x v) : decide (v = .non) = isN x := by
  cases x with
  | non =>
    have r' : v = .non := r
    rw [r'] <;> rfl
  | bl b =>
    have r' : v = .bl b := r
    rw [r'] <;> rfl
  | int b =>
    have r' : v = .int b := r
    rw [r'] <;> rfl
  | str b =>
    have r' : v = .str b := r
    rw [r'] <;> rfl
  | ty b =>
    have r' : v = .ty b := r
    rw [r'] <;> rfl
  | tup l =>
    obtain ⟨a, vs, ea, _⟩ := r
    rw [ea] <;> rfl
  | lst l =>
    obtain ⟨a, vs, ea, _⟩ := r
    rw [ea] <;> rfl
  | lstR l =>
    obtain ⟨a, vs, ea, _⟩ := r
    rw [ea] <;> rfl
  | obj c ks l =>
    obtain ⟨a, dx, vs, ea, _⟩ := r
    rw [ea] <;> rfl
  | ref i =>
    obtain ⟨a, _, ea⟩ := r
    rw [ea] <;> rfl
def aIs : F2 := fun x y _ => match y with
  | .non => some (.bl (isN x))
  | .bl b => (match x with
    | .bl a => some (.bl (decide (a = b)))
    | _ => none)
  | _ => none
def aIsNot : F2 := fun x y _ => match y with
  | .non => some (.bl (!isN x))
  | .bl b => (match x with
    | .bl a => some (.bl (!decide (a = b)))
    | _ => none)
  | _ => none
def rIsX : R2 := fun x y H Q => (y = .non ∧ Q (.bl (decide (x = .non))) H) ∨ rIsB x y H Q
def rIsNotX : R2 := fun x y H Q => (y = .non ∧ Q (.bl (!decide (x = .non))) H) ∨ rNotB x y H Q
theorem op_isX {X : Cx} : OpR X (compareOp .Is) rIsX := OpR.or op_isN op_isBl
theorem op_isNotX {X : Cx} : OpR X (compareOp .IsNot) rIsNotX := OpR.or op_notN op_notBl
theorem sr_is : SimR K rIsX aIs := fun H h G μ rh x y v u rx ry Q z e k => by
  cases y with
  | non =>
    cases e
    refine .inl ⟨ry, ?_⟩
    rw [isN_rel rx]
    exact k _ H G rh (Ext.refl _ _) rfl
  | bl b =>
    cases x <;> try cases e
    exact .inr ⟨_, _, rx, ry, k _ H G rh (Ext.refl _ _) rfl⟩
  | _ => cases e
theorem sr_isNot : SimR K rIsNotX aIsNot := fun H h G μ rh x y v u rx ry Q z e k => by
  cases y with
  | non =>
    cases e
    refine .inl ⟨ry, ?_⟩
    rw [isN_rel rx]
    exact k _ H G rh (Ext.refl _ _) rfl
  | bl b =>
    cases x <;> try cases e
    exact .inr ⟨_, _, rx, ry, k _ H G rh (Ext.refl _ _) rfl⟩
  | _ => cases e

/-! ### built-in functions -/
abbrev FC := List AV → AHeap → Option AV
def SimC (K : PySem.W.Frag) (r : List V → Hp → VK → Prop) (f : FC) : Prop := ∀ H h G μ, RelH K H h G μ → ∀ xs vs, RL K μ G xs vs → ∀ Q : VK, ∀ z, f xs h = some z → (∀ w H' G', RelH K H' h G' μ → Ext G μ G' μ → R K μ G' z w → Q w H') → r vs H Q
def mCB (f : FC) (a : MA) : ME := fun ρ h => match a ρ h with
  | .bad => .bad
  | .exc e h1 => .exc e h1
  | .ok l h1 => match f l h1 with
    | none => .bad
    | some z => .ok z h1
theorem sim_cb {W : WX2} {r : List V → Hp → VK → Prop} {f : FC} {ta : TA} {ma : MA} (ha : SimA K W ta ma) (hr : SimC K r f) : SimE K W (tCB r ta) (mCB f ma) := fun σ H ρ h G μ rel Q => by
  unfold mCB
  have A := ha σ H ρ h G μ rel
  cases ea : ma ρ h with
  | bad => trivial
  | exc e h1 =>
    rw [ea] at A
    exact A _
  | ok l h1 =>
    rw [ea] at A
    dsimp only
    cases ez : f l h1 with
    | none => trivial
    | some z =>
      intro k
      refine A _ fun vs H1 G1 μ1 r1 x1 rs => ?_
      exact hr H1 h1 G1 μ1 r1.hp l vs rs Q z ez fun w H2 G2 r2 x2 rw' => k w H2 G2 μ1 ⟨r2, r1.sl.mono x2⟩ (x1.trans x2) rw'
def aLen : FC := fun xs h => match xs with
  | [x] => (match getL h x with
    | some l => some (.int l.length)
    | none => none)
  | _ => none
theorem sc_len : SimC K (fun xs H Q => ∃ p ys, xs = [.ref p] ∧ (SqL K H p ys ∨ SqT K H p ys) ∧ Q (.int ys.length) H) aLen := fun H h G μ rh xs vs rs Q z e k => by
  cases xs with
  | nil => cases e
  | cons x t =>
    cases t with
    | cons y t => cases e
    | nil =>
      obtain ⟨v, r, ev, rv, rn⟩ := rs.inv
      have rn' : r = [] := rn
      subst rn' ev
      have e' : (match getL h x with
        | some l => some (AV.int l.length)
        | none => none) = some z := e
      cases q : getL h x with
      | none =>
        rw [q] at e'
        cases e'
      | some l =>
        rw [q] at e'
        cases e'
        obtain ⟨a, us, ea, ra, s⟩ := getL_sq rh rv q
        subst ea
        refine ⟨a, us, rfl, ?_, ?_⟩
        · rcases s with ⟨_, s, _⟩ | ⟨_, s⟩
          · exact .inr s
          · exact .inl s
        · rw [ra.length]
          exact k _ H G rh (Ext.refl _ _) rfl
def aAbs : FC := fun xs _ => match xs with
  | [.int i] => some (.int (if i < 0 then -i else i))
  | _ => none
theorem one_inv {μ : List Addr} {G : Hp} {x : AV} {vs : List V} (rs : RL K μ G [x] vs) : ∃ v, vs = [v] ∧ R K μ G x v := by
  obtain ⟨v, r, ev, rv, rn⟩ := rs.inv
  have rn' : r = [] := rn
  subst rn'
  exact ⟨v, ev, rv⟩
theorem two_inv {μ : List Addr} {G : Hp} {x y : AV} {vs : List V} (rs : RL K μ G [x, y] vs) : ∃ v u, vs = [v, u] ∧ R K μ G x v ∧ R K μ G y u := by
  obtain ⟨v, r, ev, rv, rn⟩ := rs.inv
  obtain ⟨u, er, ru⟩ := one_inv rn
  subst er
  exact ⟨v, u, ev, rv, ru⟩
theorem sc_abs : SimC K (fun xs H Q => ∃ i, xs = [.int i] ∧ Q (.int (if i < 0 then -i else i)) H) aAbs := fun H h G μ rh xs vs rs Q z e k => by
  cases xs with
  | nil => cases e
  | cons x t =>
    cases t with
    | cons y t => cases x <;> cases e
    | nil =>
      cases x <;> try cases e
      obtain ⟨v, ev, rv⟩ := one_inv rs
      have rv' : v = .int _ := rv
      subst ev rv'
      exact ⟨_, rfl, k _ H G rh (Ext.refl _ _) rfl⟩
def aInt : FC := fun xs _ => match xs with
  | [.int i] => some (.int i)
  | [.bl b] => some (.int (if b then 1 else 0))
  | _ => none
theorem sc_int : SimC K (fun xs H Q => (∃ i, xs = [.int i] ∧ Q (.int i) H) ∨ ∃ k, xs = [.bl k] ∧ Q (.int (if k then 1 else 0)) H) aInt := fun H h G μ rh xs vs rs Q z e k => by
  cases xs with
  | nil => cases e
  | cons x t =>
    cases t with
    | cons y t => cases x <;> cases e
    | nil =>
      obtain ⟨v, ev, rv⟩ := one_inv rs
      cases x <;> try cases e
      · rename_i b
        have rv' : v = .bl b := rv
        subst ev rv'
        exact .inr ⟨_, rfl, k _ H G rh (Ext.refl _ _) rfl⟩
      · rename_i b
        have rv' : v = .int b := rv
        subst ev rv'
        exact .inl ⟨_, rfl, k _ H G rh (Ext.refl _ _) rfl⟩
def aGcd : FC := fun xs _ => match xs with
  | [.int i, .int j] => some (.int ((Nat.gcd i.natAbs j.natAbs : Nat) : Int))
  | _ => none
theorem sc_gcd : SimC K (fun vs H Q => ∃ a b : Int, vs = [.int a, .int b] ∧ Q (.int ((Nat.gcd a.natAbs b.natAbs : Nat) : Int)) H) aGcd := fun H h G μ rh xs vs rs Q z e k => by
  match xs, e with
  | [.int i, .int j], e =>
    cases e
    obtain ⟨v, u, ev, rv, ru⟩ := two_inv rs
    have rv' : v = .int i := rv
    have ru' : u = .int j := ru
    subst ev rv' ru'
    exact ⟨i, j, rfl, k _ H G rh (Ext.refl _ _) rfl⟩
/-- tuple(x) | list(x): a new list that never changes -/
def aTuple : FC := fun xs h => match xs with
  | [x] => (match getL h x with
    | some l => some (.tup l)
    | none => none)
  | _ => none
def aList : FC := fun xs h => match xs with
  | [x] => (match getL h x with
    | some l => some (.lst l)
    | none => none)
  | _ => none
theorem sc_tuple : SimC K (fun xs H Q => ∃ p ys, xs = [.ref p] ∧ ((SqL K H p ys ∧ ∀ l, H l = none → Q (.ref l) (upd H l (.tup ys))) ∨ (SqT K H p ys ∧ Q (.ref p) H))) aTuple := fun H h G μ rh xs vs rs Q z e k => by
  match xs, e with
  | [x], e =>
    obtain ⟨v, ev, rv⟩ := one_inv rs
    subst ev
    have e' : (match getL h x with
      | some l => some (AV.tup l)
      | none => none) = some z := e
    cases q : getL h x with
    | none =>
      rw [q] at e'
      cases e'
    | some l =>
      rw [q] at e'
      cases e'
      obtain ⟨a, us, ea, ra, s⟩ := getL_sq rh rv q
      subst ea
      refine ⟨a, us, rfl, ?_⟩
      rcases s with ⟨_, s, sg⟩ | ⟨_, s⟩
      · exact .inr ⟨s, k _ H G rh (Ext.refl _ _) ⟨a, us, rfl, sg, ra⟩⟩
      · refine .inl ⟨s, fun p hp => ?_⟩
        obtain ⟨g, x2⟩ := rh.grow (o := .tup us) hp
        exact k _ _ _ g x2 ⟨p, _, rfl, SqT.of upd_same, RL.mono x2 ra⟩
theorem sc_list : SimC K (fun xs H Q => ∃ p ys, xs = [.ref p] ∧ (SqL K H p ys ∨ SqT K H p ys) ∧ ∀ l, H l = none → Q (.ref l) (upd H l (.lst ys))) aList := fun H h G μ rh xs vs rs Q z e k => by
  match xs, e with
  | [x], e =>
    obtain ⟨v, ev, rv⟩ := one_inv rs
    subst ev
    have e' : (match getL h x with
      | some l => some (AV.lst l)
      | none => none) = some z := e
    cases q : getL h x with
    | none =>
      rw [q] at e'
      cases e'
    | some l =>
      rw [q] at e'
      cases e'
      obtain ⟨a, us, ea, ra, s⟩ := getL_sq rh rv q
      subst ea
      refine ⟨a, us, rfl, ?_, fun p hp => ?_⟩
      · rcases s with ⟨_, s, sg⟩ | ⟨_, s⟩
        · exact .inr s
        · exact .inl s
      · obtain ⟨g, x2⟩ := rh.grow (o := .lst us) hp
        exact k _ _ _ g x2 ⟨p, _, rfl, upd_same, RL.mono x2 ra⟩
/-- bools in a list -/
def bools : List AV → Option (List Bool)
  | [] => some []
  | .bl b :: l => (match bools l with
    | some bs => some (b :: bs)
    | none => none)
  | _ :: _ => none
theorem bools_rel {μ : List Addr} {G : Hp} : ∀ {l : List AV} {vs : List V} {bs : List Bool}, RL K μ G l vs → bools l = some bs → vs = bs.map V.bl
  | [], vs, bs, r, e => by
    cases e
    exact r
  | x :: l, vs, bs, r, e => by
    obtain ⟨v, t, ev, rv, rt⟩ := r.inv
    cases x <;> try cases e
    rename_i b
    have e' : (match bools l with
      | some bs => some (b :: bs)
      | none => none) = some bs := e
    cases q : bools l with
    | none =>
      rw [q] at e'
      cases e'
    | some bs' =>
      rw [q] at e'
      cases e'
      have rv' : v = .bl b := rv
      rw [ev, rv', bools_rel rt q] <;> rfl
def intsOf : List AV → Option (List Int)
  | [] => some []
  | .int b :: l => (match intsOf l with
    | some bs => some (b :: bs)
    | none => none)
  | _ :: _ => none
theorem intsOf_rel {μ : List Addr} {G : Hp} : ∀ {l : List AV} {vs : List V} {bs : List Int}, RL K μ G l vs → intsOf l = some bs → vs = bs.map V.int
  | [], vs, bs, r, e => by
    cases e
    exact r
  | x :: l, vs, bs, r, e => by
    obtain ⟨v, t, ev, rv, rt⟩ := r.inv
    cases x <;> try cases e
    rename_i b
    have e' : (match intsOf l with
      | some bs => some (b :: bs)
      | none => none) = some bs := e
    cases q : intsOf l with
    | none =>
      rw [q] at e'
      cases e'
    | some bs' =>
      rw [q] at e'
      cases e'
      have rv' : v = .int b := rv
      rw [ev, rv', intsOf_rel rt q] <;> rfl
/-- a fold over a list (not a tuple) -/
def onL (f : List AV → Option AV) : FC := fun xs h => match xs with
  | [x] => if isT x = true then none else (match getL h x with
    | some l => f l
    | none => none)
  | _ => none
theorem sc_onL {f : List AV → Option AV} {r : List V → Hp → VK → Prop} (hr : ∀ H h G μ, RelH K H h G μ → ∀ l a us, RL K μ G l us → SqL K H a us → ∀ Q : VK, ∀ z, f l = some z → (∀ w H' G', RelH K H' h G' μ → Ext G μ G' μ → R K μ G' z w → Q w H') → r [.ref a] H Q) : SimC K r (onL f) := fun H h G μ rh xs vs rs Q z e k => by
  match xs, e with
  | [x], e =>
    obtain ⟨v, ev, rv⟩ := one_inv rs
    subst ev
    have e' : (if isT x = true then none else (match getL h x with
      | some l => f l
      | none => none)) = some z := e
    by_cases ht : isT x = true
    · rw [if_pos ht] at e'
      cases e'
    · rw [if_neg ht] at e'
      cases q : getL h x with
      | none =>
        rw [q] at e'
        cases e'
      | some l =>
        rw [q] at e'
        obtain ⟨a, us, ea, ra, s⟩ := getL_sq rh rv q
        subst ea
        rcases s with ⟨s0, _⟩ | ⟨_, s⟩
        · exact absurd s0 ht
        · exact hr H h G μ rh l a us ra s Q z e' k
def fAll : List AV → Option AV := fun l => match bools l with
  | some bs => some (.bl (bs.all id))
  | none => none
def fAny : List AV → Option AV := fun l => match bools l with
  | some bs => some (.bl (bs.any id))
  | none => none
def fSum : List AV → Option AV := fun l => match intsOf l with
  | some bs => some (.int bs.sum)
  | none => none
theorem sc_all : SimC K (rAll K) (onL fAll) := sc_onL fun H h G μ rh l a us ra s Q z e k => by
  unfold fAll at e
  cases q : bools l with
  | none =>
    rw [q] at e
    cases e
  | some bs =>
    rw [q] at e
    cases e
    rw [bools_rel ra q] at s
    exact ⟨a, bs, rfl, s, k _ H G rh (Ext.refl _ _) rfl⟩
theorem sc_any : SimC K (rAny K) (onL fAny) := sc_onL fun H h G μ rh l a us ra s Q z e k => by
  unfold fAny at e
  cases q : bools l with
  | none =>
    rw [q] at e
    cases e
  | some bs =>
    rw [q] at e
    cases e
    rw [bools_rel ra q] at s
    exact ⟨a, bs, rfl, s, k _ H G rh (Ext.refl _ _) rfl⟩
theorem sc_sum : SimC K (rSum K) (onL fSum) := sc_onL fun H h G μ rh l a us ra s Q z e k => by
  unfold fSum at e
  cases q : intsOf l with
  | none =>
    rw [q] at e
    cases e
  | some bs =>
    rw [q] at e
    cases e
    rw [intsOf_rel ra q] at s
    exact ⟨a, bs, rfl, s, k _ H G rh (Ext.refl _ _) rfl⟩
/-- isinstance(x, T) | isinstance(x, (T, U, ..)), T a built-in type -/
def tyName : AV → Option String
  | .non => some "NoneType"
  | .bl _ => some "bool"
  | .int _ => some "int"
  | .str _ => some "str"
  | .tup _ => some "tuple"
  | .lst _ => some "list"
  | _ => none
def aIsi (n : String) : FC := fun xs _ => match xs with
  | [x, .ty m] => if m = n then (match tyName x with
    | some t => (match kitB t n with
      | some b => some (.bl b)
      | none => none)
    | none => none) else none
  | _ => none
theorem ty_rel {H G : Hp} {μ : List Addr} {x : AV} {v : V} {t : String} (s : Same G H) (r : R K μ G x v) (e : tyName x = some t) : TyX K H v (.type t) := by
  cases x with
  | non =>
    cases e
    have r' : v = .non := r
    rw [r']
    exact .base .non
  | bl b =>
    cases e
    have r' : v = .bl b := r
    rw [r']
    exact .base (.bl b)
  | int b =>
    cases e
    have r' : v = .int b := r
    rw [r']
    exact .base (.int b)
  | str b =>
    cases e
    have r' : v = .str b := r
    rw [r']
    exact .base (.str b)
  | tup l =>
    cases e
    obtain ⟨a, vs, ea, sa, ra⟩ := r
    rw [ea]
    rcases same_sqT s sa with (z | ⟨o, z⟩) | ⟨o, its, n, z1, z2, _⟩
    · exact .base (.tup z)
    · exact .fTuple z
    · exact .kTuple z1 z2
  | lst l =>
    cases e
    obtain ⟨a, vs, ea, sa, ra⟩ := r
    rw [ea]
    exact .base (.lst (s _ _ sa))
  | _ => cases e
theorem sc_isi (n : String) : SimC K (rIsi K) (aIsi n) := fun H h G μ rh xs vs rs Q z e k => by
  match xs, e with
  | [x, .ty m], e =>
    obtain ⟨v, u, ev, rv, ru⟩ := two_inv rs
    have ru' : u = .ty m := ru
    subst ev ru'
    have e' : (if m = n then (match tyName x with
      | some t => (match kitB t n with
        | some b => some (AV.bl b)
        | none => none)
      | none => none) else none) = some z := e
    by_cases hm : m = n
    · rw [if_pos hm] at e'
      subst hm
      cases q : tyName x with
      | none =>
        rw [q] at e'
        cases e'
      | some t =>
        rw [q] at e'
        dsimp only at e'
        cases q2 : kitB t m with
        | none =>
          rw [q2] at e'
          cases e'
        | some b =>
          rw [q2] at e'
          cases e'
          exact ⟨v, .ty m, .type t, .type m, b, rfl, .ty m, ty_rel rh.ex rv q, kit_ty q2, k _ H G rh (Ext.refl _ _) rfl⟩
    · rw [if_neg hm] at e'
      cases e'
end
section
variable {X : Cx} {W : WX2} {a b e : Expr} {ma mb : ME} {pos : Pos} {es : List Expr} {m : MA}
theorem em_ix (ha : PEm X W a ma) (hb : PEm X W b mb) (hs : PlainIx b) : PEm X W (.Subscript a b pos) (mOp aIx ma mb) := by
  obtain ⟨ta, pa, sa⟩ := ha.x
  obtain ⟨tb, pb, sb⟩ := hb.x
  exact .of (pe_ix ix_LT pa pb hs) (sim_op sa sb sr_ix)
/-- a built-in function, by its name -/
theorem em_B {x : Str} {id : String} {p : Pos} {r : List V → Hp → VK → Prop} {f : FC} (hc : CallR X (.builtin id) r) (hs : SimC X.K r f) (hg : Gl X x) (hm : X.mg x = none) (hv : bootBuiltins x = some (.builtin id)) (ha : PAm X W (e :: es) m) (hn : x ≠ "__name__" := by decide)
    (hdb : (x == ("__debug__" : Str)) = false := by decide) (he : starEach (e :: es) X.env = (false, eval e X.env) :: starEach es X.env := by rfl) (hpl : (backTo pos (starEach es X.env)).any (·.1) = false := by rfl) :
    PEm X W (.Call (.Name x p) (e :: es) [] pos) (mCB f m) := by
  obtain ⟨ta, pa, sa⟩ := ha.x
  exact .of (pe_callB hc hg hm hv pa hn hdb he hpl) (sim_cb sa hs)
theorem em_Ty {x : Str} {T : String} {p : Pos} {r : List V → Hp → VK → Prop} {f : FC} (hc : CallR X (.type T) r) (hs : SimC X.K r f) (hg : Gl X x) (hm : X.mg x = none) (hv : bootBuiltins x = some (.type T)) (ha : PAm X W (e :: es) m) (hn : x ≠ "__name__" := by decide)
    (hdb : (x == ("__debug__" : Str)) = false := by decide) (he : starEach (e :: es) X.env = (false, eval e X.env) :: starEach es X.env := by rfl) (hpl : (backTo pos (starEach es X.env)).any (·.1) = false := by rfl) :
    PEm X W (.Call (.Name x p) (e :: es) [] pos) (mCB f m) := by
  obtain ⟨ta, pa, sa⟩ := ha.x
  exact .of (pe_callTy hc hg hm hv pa hn hdb he hpl) (sim_cb sa hs)
/-- a built-in that the module has by import -/
theorem em_Bf {x : Str} {id : String} {p : Pos} {r : List V → Hp → VK → Prop} {f : FC} (hc : CallR X (.builtin id) r) (hs : SimC X.K r f) (hg : Gl X x) (hm : X.mg x = some (.builtin id)) (ha : PAm X W (e :: es) m)
    (hdb : (x == ("__debug__" : Str)) = false := by decide) (he : starEach (e :: es) X.env = (false, eval e X.env) :: starEach es X.env := by rfl) (hpl : (backTo pos (starEach es X.env)).any (·.1) = false := by rfl) :
    PEm X W (.Call (.Name x p) (e :: es) [] pos) (mCB f m) := by
  obtain ⟨ta, pa, sa⟩ := ha.x
  exact .of (pe_callBfun hc hg hm pa hdb he hpl) (sim_cb sa hs)
/-- a built-in type's name as a value -/
theorem em_ty {x : Str} {n : String} {p : Pos} (hg : Gl X x) (hm : X.mg x = none) (hv : bootBuiltins x = some (.type n)) (hn : x ≠ "__name__" := by decide) (hd : (x == ("__debug__" : Str)) = false := by decide) : PEm X W (.Name x p) (mC (.ty n)) :=
  .of (pe_bltn hg hm hv (show RelV (.ty n) (.type n) from rfl) hn hd) (sim_c fun _ _ => rfl)
end
end Mi

set_option maxRecDepth 100000
set_option maxHeartbeats 4000000
/-! Statements. -/
namespace Mi
open PySem PySem.Spec L2

/-! ### meanings -/
def mNext : MS := fun ρ h => .ok .nx ρ h
def mSeq (a b : MS) : MS := fun ρ h => match a ρ h with
  | .ok .nx ρ1 h1 => b ρ1 h1
  | r => r
def gNm (i : Nat) : MG := fun d ρ h => .ok .nx (ρ.set i (some d)) h
abbrev MGs := List AV → Env2 → AHeap → RetS
def gsNil : MGs := fun l ρ h => match l with
  | [] => .ok .nx ρ h
  | _ => .bad
def gsCons (g : MG) (r : MGs) : MGs := fun l ρ h => match l with
  | x :: l => (match g x ρ h with
    | .ok .nx ρ1 h1 => r l ρ1 h1
    | _ => .bad)
  | [] => .bad
def gTp (n : Nat) (g : MGs) : MG := fun d ρ h => match d with
  | .tup l => if l.length = n then g l ρ h else .bad
  | _ => .bad
def mAsg (e : ME) (g : MG) : MS := fun ρ h => match e ρ h with
  | .bad => .bad
  | .exc x h1 => .exc x ρ h1
  | .ok d h1 => match g d ρ h1 with
    | .ok .nx ρ2 h2 => .ok .nx ρ2 h2
    | _ => .bad
def mDrop (e : ME) : MS := fun ρ h => match e ρ h with
  | .bad => .bad
  | .exc x h1 => .exc x ρ h1
  | .ok _ h1 => .ok .nx ρ h1
def mRet (e : ME) : MS := fun ρ h => match e ρ h with
  | .bad => .bad
  | .exc x h1 => .exc x ρ h1
  | .ok d h1 => .ok (.rt d) ρ h1
def mRetN : MS := fun ρ h => .ok (.rt .non) ρ h
def mBrk : MS := fun ρ h => .ok .bk ρ h
def mCnt : MS := fun ρ h => .ok .ct ρ h
def mNever : MS := fun _ _ => .bad
def mIfS (t : MT) (a b : MS) : MS := fun ρ h => match t ρ h with
  | .bad => .bad
  | .exc x h1 => .exc x ρ h1
  | .ok c h1 => if c = true then a ρ h1 else b ρ h1
/-- a, b = x, y -/
def mPar (i j : Nat) (a : MA) : MS := fun ρ h => match a ρ h with
  | .bad => .bad
  | .exc x h1 => .exc x ρ h1
  | .ok [x, y] h1 => .ok .nx ((ρ.set i (some x)).set j (some y)) h1
  | .ok _ _ => .bad
def mPar3 (i j l : Nat) (a : MA) : MS := fun ρ h => match a ρ h with
  | .bad => .bad
  | .exc x h1 => .exc x ρ h1
  | .ok [x, y, z] h1 => .ok .nx (((ρ.set i (some x)).set j (some y)).set l (some z)) h1
  | .ok _ _ => .bad
/-- name op= e -/
def mAug (i : Nat) (f : F2) (e : ME) : MS := fun ρ h => match ρ[i]? with
  | some (some x) => (match e ρ h with
    | .bad => .bad
    | .exc z h1 => .exc z ρ h1
    | .ok y h1 => (match f x y h1 with
      | some d => .ok .nx (ρ.set i (some d)) h1
      | none => .bad))
  | _ => .bad
/-- o[i] = e: the value, the list, the place -/
def mSetIx (o i e : ME) : MS := fun ρ h => match e ρ h with
  | .bad => .bad
  | .exc x h1 => .exc x ρ h1
  | .ok d h1 => match o ρ h1 with
    | .ok (.ref c) h2 => (match i ρ h2 with
      | .ok (.int k) h3 => (match h3[c]? with
        | some (some (.lst l)) => (match ixN l.length k with
          | some j => .ok .nx ρ (h3.set c (some (.lst (l.set j d))))
          | none => .bad)
        | _ => .bad)
      | .exc x h3 => .exc x ρ h3
      | _ => .bad)
    | .exc x h2 => .exc x ρ h2
    | _ => .bad
/-- o.f = e, o being made -/
def putK (f : Str) : List Str → List Str
  | [] => [f]
  | g :: r => if g = f then g :: r else g :: putK f r
def putL (f : Str) (d : AV) : List Str → List AV → List AV
  | [], _ => [d]
  | g :: r, x :: l => if g = f then d :: l else x :: putL f d r l
  | _ :: _, [] => []
def mSetAt (cs : List Str) (f : Str) (o e : ME) : MS := fun ρ h => match e ρ h with
  | .bad => .bad
  | .exc x h1 => .exc x ρ h1
  | .ok d h1 => match o ρ h1 with
    | .ok (.ref c) h2 => (match h2[c]? with
      | some (some (.ins n ks l)) => if n ∈ cs ∧ ks.length < 1000 then .ok .nx ρ (h2.set c (some (.ins n (putK f ks) (putL f d ks l)))) else .bad
      | _ => .bad)
    | .exc x h2 => .exc x ρ h2
    | _ => .bad
def isLc (h : AHeap) (c : Nat) : Bool := match h[c]? with
  | some (some (.lst _)) => true
  | _ => false
theorem isLc_ok {h : AHeap} {c : Nat} (e : isLc h c = true) : ∃ l, h[c]? = some (some (MO.lst l)) := by
  unfold isLc at e
  cases q : h[c]? with
  | none =>
    rw [q] at e
    cases e
  | some o =>
    rw [q] at e
    cases o with
    | none => cases e
    | some mo =>
      cases mo with
      | lst l => exact ⟨l, rfl⟩
      | ins n ks l => cases e
/-- xs.append(e), xs.extend(e) as expressions -/
def mApp (o e : ME) : ME := fun ρ h => match o ρ h with
  | .ok (.ref c) h1 => if isLc h1 c = true then (match e ρ h1 with
    | .ok d h2 => (match h2[c]? with
      | some (some (.lst l)) => if l.length < sizeLine then .ok .non (h2.set c (some (.lst (l ++ [d])))) else .bad
      | _ => .bad)
    | .exc x h2 => .exc x h2
    | .bad => .bad) else .bad
  | .exc x h1 => .exc x h1
  | _ => .bad
def mExt (o e : ME) : ME := fun ρ h => match o ρ h with
  | .ok (.ref c) h1 => if isLc h1 c = true then (match e ρ h1 with
    | .ok d h2 => (match h2[c]?, d with
      | some (some (.lst l)), .lst m => if l.length + m.length ≤ sizeLine then .ok .non (h2.set c (some (.lst (l ++ m)))) else .bad
      | _, _ => .bad)
    | .exc x h2 => .exc x h2
    | .bad => .bad) else .bad
  | .exc x h1 => .exc x h1
  | _ => .bad
/-- from here on the list (the instance) at the name i never changes -/
def mFrz (i : Nat) : MS := fun ρ h => match ρ[i]? with
  | some (some (.ref c)) => (match h[c]? with
    | some (some (.lst l)) => .ok .nx (ρ.set i (some (.lst l))) (h.set c none)
    | some (some (.ins n ks l)) => .ok .nx (ρ.set i (some (.obj n ks l))) (h.set c none)
    | _ => .bad)
  | _ => .ok .nx ρ h

/-! ### ties -/
section
variable {K : PySem.W.Frag} {W : WX2} {ta tb te to ti : TE} {a b e o i' : ME} {tt : TT} {m : MT} {l : TA} {q : MA} {t u : TS} {x y : MS} {g : TG} {k' : MG}
theorem FlK.mono {D : Ends} {σ : L2.St} {H : Hp} {G G' : Hp} {μ : List Addr} {f : Fl} (h : FlK K D σ H G μ f) : True := trivial
theorem ss_next : SimS K W tNext mNext := fun σ H ρ h G μ rel D k => k σ H G μ rel (Ext.refl _ _)
theorem ss_brk : SimS K W tBreak mBrk := fun σ H ρ h G μ rel D k => k σ H G μ rel (Ext.refl _ _)
theorem ss_cnt : SimS K W tCont mCnt := fun σ H ρ h G μ rel D k => k σ H G μ rel (Ext.refl _ _)
theorem ss_never : SimS K W t mNever := fun σ H ρ h G μ rel D => trivial
theorem ss_seq (h1 : SimS K W t x) (h2 : SimS K W u y) : SimS K W (tSeq t u) (mSeq x y) := fun σ H ρ h G μ rel D => by
  unfold mSeq
  have A := h1 σ H ρ h G μ rel { D with nx := u D }
  cases ea : x ρ h with
  | bad => trivial
  | exc z ρ1 h1 =>
    rw [ea] at A
    exact A
  | ok f ρ1 h1 =>
    rw [ea] at A
    cases f with
    | nx =>
      dsimp only
      cases eb : y ρ1 h1 with
      | bad => trivial
      | exc z ρ2 h3 =>
        intro k
        refine A fun σ1 H1 G1 μ1 r1 x1 => ?_
        have B := h2 σ1 H1 ρ1 h1 G1 μ1 r1 D
        rw [eb] at B
        exact B fun d σ2 H2 G2 μ2 r2 x2 q => k d σ2 H2 G2 μ2 r2 (x1.trans x2) q
      | ok f2 ρ2 h3 =>
        intro k
        refine A fun σ1 H1 G1 μ1 r1 x1 => ?_
        have B := h2 σ1 H1 ρ1 h1 G1 μ1 r1 D
        rw [eb] at B
        exact B fun σ2 H2 G2 μ2 r2 x2 => k σ2 H2 G2 μ2 r2 (x1.trans x2)
    | rt d =>
      intro k
      exact A fun σ1 H1 G1 μ1 r1 x1 => k σ1 H1 G1 μ1 r1 x1
    | bk =>
      intro k
      exact A fun σ1 H1 G1 μ1 r1 x1 => k σ1 H1 G1 μ1 r1 x1
    | ct =>
      intro k
      exact A fun σ1 H1 G1 μ1 r1 x1 => k σ1 H1 G1 μ1 r1 x1
theorem sg_nm {i : Nat} : SimG K W (gName i) (gNm i) := fun σ H ρ h G μ rel d v r Q k => k _ H G μ ⟨rel.hp, rel.sl.set r⟩ (Ext.refl _ _)
def SimGs (K : PySem.W.Frag) (t : TGs) (m : MGs) : Prop := ∀ σ H ρ h G μ, Rel K σ H ρ h G μ → ∀ l vs, RL K μ G l vs → ∀ Q : L2.St → Hp → Prop, match m l ρ h with
  | .ok .nx ρ' h' => (∀ σ' H' G' μ', Rel K σ' H' ρ' h' G' μ' → Ext G μ G' μ' → Q σ' H') → t vs σ H Q
  | _ => True
theorem sgs_nil : SimGs K gNil gsNil := fun σ H ρ h G μ rel l vs r Q => by
  cases l with
  | nil =>
    intro k
    exact ⟨r, k σ H G μ rel (Ext.refl _ _)⟩
  | cons x l => trivial
theorem sgs_cons {tr : TGs} {mr : MGs} (h1 : SimG K W g k') (h2 : SimGs K tr mr) : SimGs K (gCons g tr) (gsCons k' mr) := fun σ H ρ h G μ rel l vs r Q => by
  cases l with
  | nil => trivial
  | cons x l =>
    obtain ⟨v, us, ev, rv, rs⟩ := r.inv
    show (match (match k' x ρ h with
      | .ok .nx ρ1 h1 => mr l ρ1 h1
      | _ => .bad) with
      | .ok .nx ρ' h' => (∀ σ' H' G' μ', Rel K σ' H' ρ' h' G' μ' → Ext G μ G' μ' → Q σ' H') → gCons g tr vs σ H Q
      | _ => True)
    have A := h1 σ H ρ h G μ rel x v rv (fun σ1 H1 => tr us σ1 H1 Q)
    cases ea : k' x ρ h with
    | bad => trivial
    | exc z ρ1 h1 => trivial
    | ok f ρ1 h1 =>
      rw [ea] at A
      cases f with
      | nx =>
        dsimp only
        cases eb : mr l ρ1 h1 with
        | bad => trivial
        | exc z ρ2 h3 => trivial
        | ok f2 ρ2 h3 =>
          cases f2 with
          | nx =>
            intro k
            refine ⟨v, us, ev, A fun σ1 H1 G1 μ1 r1 x1 => ?_⟩
            have B := h2 σ1 H1 ρ1 h1 G1 μ1 r1 l us (RL.mono x1 rs) Q
            rw [eb] at B
            exact B fun σ2 H2 G2 μ2 r2 x2 => k σ2 H2 G2 μ2 r2 (x1.trans x2)
          | _ => trivial
      | _ => trivial
theorem sg_tp {n : Nat} {tr : TGs} {mr : MGs} (h : SimGs K tr mr) : SimG K W (gTup K n tr) (gTp n mr) := fun σ H ρ hh G μ rel d v r Q => by
  cases d with
  | tup l =>
    show (match (if l.length = n then mr l ρ hh else .bad) with
      | .bad => True
      | .ok .nx ρ' h' => (∀ σ' H' G' μ', Rel K σ' H' ρ' h' G' μ' → Ext G μ G' μ' → Q σ' H') → gTup K n tr v σ H Q
      | _ => True)
    by_cases hn : l.length = n
    · rw [if_pos hn]
      obtain ⟨a, vs, ea, sa, ra⟩ := r
      have A := h σ H ρ hh G μ rel l vs ra Q
      cases eb : mr l ρ hh with
      | bad => trivial
      | exc z ρ2 h3 => trivial
      | ok f2 ρ2 h3 =>
        rw [eb] at A
        cases f2 with
        | nx =>
          intro k
          exact ⟨a, vs, ea, same_sqT rel.hp.ex sa, by rw [ra.length]; exact hn, A k⟩
        | _ => trivial
    · rw [if_neg hn]
      trivial
  | _ => trivial
theorem ss_asg (he : SimE K W te e) (hg : SimG K W g k') : SimS K W (tAsg te g) (mAsg e k') := fun σ H ρ h G μ rel D => by
  unfold mAsg
  have A := he σ H ρ h G μ rel
  cases ea : e ρ h with
  | bad => trivial
  | exc z h1 =>
    rw [ea] at A
    intro k
    exact A _ fun d H' G' μ' r1 x1 q => k d σ H' G' μ' r1 x1 q
  | ok d h1 =>
    rw [ea] at A
    dsimp only
    cases eb : k' d ρ h1 with
    | bad => trivial
    | exc z ρ2 h2 => trivial
    | ok f ρ2 h2 =>
      cases f with
      | nx =>
        intro k
        refine A _ fun v H1 G1 μ1 r1 x1 rv => ?_
        have B := hg σ H1 ρ h1 G1 μ1 r1 d v rv D.nx
        rw [eb] at B
        exact B fun σ2 H2 G2 μ2 r2 x2 => k σ2 H2 G2 μ2 r2 (x1.trans x2)
      | _ => trivial
theorem ss_drop (he : SimE K W te e) : SimS K W (tDrop te) (mDrop e) := fun σ H ρ h G μ rel D => by
  unfold mDrop
  have A := he σ H ρ h G μ rel
  cases ea : e ρ h with
  | bad => trivial
  | exc z h1 =>
    rw [ea] at A
    intro k
    exact A _ fun d H' G' μ' r1 x1 q => k d σ H' G' μ' r1 x1 q
  | ok d h1 =>
    rw [ea] at A
    intro k
    exact A _ fun v H1 G1 μ1 r1 x1 rv => k σ H1 G1 μ1 r1 x1
theorem ss_ret (he : SimE K W te e) : SimS K W (tRet te) (mRet e) := fun σ H ρ h G μ rel D => by
  unfold mRet
  have A := he σ H ρ h G μ rel
  cases ea : e ρ h with
  | bad => trivial
  | exc z h1 =>
    rw [ea] at A
    intro k
    exact A _ fun d H' G' μ' r1 x1 q => k d σ H' G' μ' r1 x1 q
  | ok d h1 =>
    rw [ea] at A
    intro k
    exact A _ fun v H1 G1 μ1 r1 x1 rv => k σ H1 G1 μ1 r1 x1 v rv
theorem ss_retN : SimS K W tRetN mRetN := fun σ H ρ h G μ rel D k => k σ H G μ rel (Ext.refl _ _) .non rfl
theorem ss_if (ht : SimT K W tt m) (h1 : SimS K W t x) (h2 : SimS K W u y) : SimS K W (tIfS tt t u) (mIfS m x y) := fun σ H ρ h G μ rel D => by
  unfold mIfS
  have A := ht σ H ρ h G μ rel
  cases ea : m ρ h with
  | bad => trivial
  | exc z h1 =>
    rw [ea] at A
    intro k
    exact A _ fun d H' G' μ' r1 x1 q => k d σ H' G' μ' r1 x1 q
  | ok c hh =>
    rw [ea] at A
    dsimp only
    cases c with
    | true =>
      rw [if_pos rfl]
      cases eb : x ρ hh with
      | bad => trivial
      | exc z ρ2 h3 =>
        intro k
        refine A _ fun H1 G1 μ1 r1 x1 => ?_
        have B := h1 σ H1 ρ hh G1 μ1 r1 D
        rw [eb] at B
        exact B fun d σ2 H2 G2 μ2 r2 x2 q => k d σ2 H2 G2 μ2 r2 (x1.trans x2) q
      | ok f2 ρ2 h3 =>
        intro k
        refine A _ fun H1 G1 μ1 r1 x1 => ?_
        have B := h1 σ H1 ρ hh G1 μ1 r1 D
        rw [eb] at B
        exact B fun σ2 H2 G2 μ2 r2 x2 => k σ2 H2 G2 μ2 r2 (x1.trans x2)
    | false =>
      rw [if_neg Bool.false_ne_true]
      cases eb : y ρ hh with
      | bad => trivial
      | exc z ρ2 h3 =>
        intro k
        refine A _ fun H1 G1 μ1 r1 x1 => ?_
        have B := h2 σ H1 ρ hh G1 μ1 r1 D
        rw [eb] at B
        exact B fun d σ2 H2 G2 μ2 r2 x2 q => k d σ2 H2 G2 μ2 r2 (x1.trans x2) q
      | ok f2 ρ2 h3 =>
        intro k
        refine A _ fun H1 G1 μ1 r1 x1 => ?_
        have B := h2 σ H1 ρ hh G1 μ1 r1 D
        rw [eb] at B
        exact B fun σ2 H2 G2 μ2 r2 x2 => k σ2 H2 G2 μ2 r2 (x1.trans x2)
theorem ss_par {i j : Nat} (ha : SimA K W l q) : SimS K W (tPar i j l) (mPar i j q) := fun σ H ρ h G μ rel D => by
  unfold mPar
  have A := ha σ H ρ h G μ rel
  cases ea : q ρ h with
  | bad => trivial
  | exc z h1 =>
    rw [ea] at A
    intro k
    exact A _ fun d H' G' μ' r1 x1 q => k d σ H' G' μ' r1 x1 q
  | ok ds h1 =>
    rw [ea] at A
    match ds with
    | [] => trivial
    | [_] => trivial
    | _ :: _ :: _ :: _ => trivial
    | [x, y] =>
      intro k
      refine A _ fun vs H1 G1 μ1 r1 x1 rs => ?_
      obtain ⟨v, u, ev, rv, ru⟩ := two_inv rs
      exact ⟨v, u, ev, k _ H1 G1 μ1 ⟨r1.hp, (r1.sl.set rv).set ru⟩ x1⟩
theorem ss_par3 {i j n : Nat} (ha : SimA K W l q) : SimS K W (tPar3 i j n l) (mPar3 i j n q) := fun σ H ρ h G μ rel D => by
  unfold mPar3
  have A := ha σ H ρ h G μ rel
  cases ea : q ρ h with
  | bad => trivial
  | exc z h1 =>
    rw [ea] at A
    intro k
    exact A _ fun d H' G' μ' r1 x1 q => k d σ H' G' μ' r1 x1 q
  | ok ds h1 =>
    rw [ea] at A
    match ds with
    | [] => trivial
    | [_] => trivial
    | [_, _] => trivial
    | _ :: _ :: _ :: _ :: _ => trivial
    | [x, y, z] =>
      intro k
      refine A _ fun vs H1 G1 μ1 r1 x1 rs => ?_
      obtain ⟨v, r, ev, rv, rr⟩ := rs.inv
      obtain ⟨u, w, er, ru, rw'⟩ := two_inv rr
      subst er
      exact ⟨v, u, w, ev, k _ H1 G1 μ1 ⟨r1.hp, ((r1.sl.set rv).set ru).set rw'⟩ x1⟩
theorem ss_setIx (ho : SimE K W to o) (hi : SimE K W ti i') (he : SimE K W te e) : SimS K W (tAsg te (gSub to ti rSetL)) (mSetIx o i' e) := fun σ H ρ h G μ rel D => by
  unfold mSetIx
  have A := he σ H ρ h G μ rel
  cases ea : e ρ h with
  | bad => trivial
  | exc z h1 =>
    rw [ea] at A
    intro k
    exact A _ fun d H' G' μ' r1 x1 q => k d σ H' G' μ' r1 x1 q
  | ok d h1 =>
    rw [ea] at A
    dsimp only
    cases eo : o ρ h1 with
    | bad => trivial
    | exc z h2 =>
      intro k
      refine A _ fun v H1 G1 μ1 r1 x1 rv => ?_
      have B := ho σ H1 ρ h1 G1 μ1 r1 (fun o H1 => ti σ H1 fun i H2 => rSetL o i v H2 fun H3 => D.nx σ H3)
      rw [eo] at B
      exact B fun d H' G' μ' r2 x2 q => k d σ H' G' μ' r2 (x1.trans x2) q
    | ok p h2 =>
      cases p with
      | ref c =>
        dsimp only
        cases ei : i' ρ h2 with
        | bad => trivial
        | exc z h3 =>
          intro k
          refine A _ fun v H1 G1 μ1 r1 x1 rv => ?_
          have B := ho σ H1 ρ h1 G1 μ1 r1 (fun o H1 => ti σ H1 fun i H2 => rSetL o i v H2 fun H3 => D.nx σ H3)
          rw [eo] at B
          refine B fun u H2 G2 μ2 r2 x2 ru => ?_
          have C := hi σ H2 ρ h2 G2 μ2 r2 (fun i H2 => rSetL u i v H2 fun H3 => D.nx σ H3)
          rw [ei] at C
          exact C fun d H' G' μ' r3 x3 q => k d σ H' G' μ' r3 ((x1.trans x2).trans x3) q
        | ok n h3 =>
          cases n with
          | int kk =>
            dsimp only
            cases ec : h3[c]? with
            | none => trivial
            | some oo =>
              cases oo with
              | none => trivial
              | some mo =>
                cases mo with
                | ins _ _ _ => trivial
                | lst ll =>
                  dsimp only
                  cases ej : ixN ll.length kk with
                  | none => trivial
                  | some j =>
                    intro k
                    refine A _ fun v H1 G1 μ1 r1 x1 rv => ?_
                    have B := ho σ H1 ρ h1 G1 μ1 r1 (fun o H1 => ti σ H1 fun i H2 => rSetL o i v H2 fun H3 => D.nx σ H3)
                    rw [eo] at B
                    refine B fun u H2 G2 μ2 r2 x2 ru => ?_
                    have C := hi σ H2 ρ h2 G2 μ2 r2 (fun i H2 => rSetL u i v H2 fun H3 => D.nx σ H3)
                    rw [ei] at C
                    refine C fun w H3 G3 μ3 r3 x3 rw' => ?_
                    obtain ⟨pa, f1, f2⟩ := R.mono x3 ru
                    obtain ⟨pb, g1, g2, vs, g3, g4⟩ := r3.hp.cont c _ ec
                    rw [f1] at g1
                    cases g1
                    have hw : RM K μ3 G3 (.lst (ll.set j d)) (some (.lst (vs.set j v))) := ⟨_, rfl, RL.set (R.mono x3 (R.mono x2 rv)) j g4⟩
                    refine ⟨pa, vs, kk, j, f2, rw', g3, by rw [g4.length]; exact ej, ?_⟩
                    exact k σ _ G3 μ3 ⟨r3.hp.write ec f1 hw, r3.sl⟩ ((x1.trans x2).trans x3)
          | _ => trivial
      | _ => trivial
theorem put_zip (f : Str) (d : AV) (v : V) {μ : List Addr} {G : Hp} (hv : R K μ G d v) : ∀ {ks : List Str} {l : List AV} {vs : List V}, ks.length = l.length → RL K μ G l vs → ∃ us, putF f v (ks.zip vs) = (putK f ks).zip us ∧ (putK f ks).length = (putL f d ks l).length ∧ RL K μ G (putL f d ks l) us
  | [], l, vs, hl, r => by
    refine ⟨[v], ?_, rfl, RL.cons hv RL.nil⟩
    rw [List.zip_nil_left] <;> rfl
  | g :: ks, [], vs, hl, r => by simp at hl
  | g :: ks, x :: l, vs, hl, r => by
    obtain ⟨w, us, ev, rw', rs⟩ := r.inv
    subst ev
    have hl' : ks.length = l.length := by simpa using hl
    by_cases hg : g = f
    · refine ⟨v :: us, ?_, ?_, ?_⟩
      · show (if g = f then (g, v) :: ks.zip us else (g, w) :: putF f v (ks.zip us)) = (if g = f then g :: ks else g :: putK f ks).zip (v :: us)
        rw [if_pos hg, if_pos hg] <;> rfl
      · show (if g = f then g :: ks else g :: putK f ks).length = (if g = f then d :: l else x :: putL f d ks l).length
        rw [if_pos hg, if_pos hg, List.length_cons, List.length_cons, hl']
      · show RL K μ G (if g = f then d :: l else x :: putL f d ks l) (v :: us)
        rw [if_pos hg]
        exact RL.cons hv rs
    · obtain ⟨ws, e1, e2, e3⟩ := put_zip f d v hv hl' rs
      refine ⟨w :: ws, ?_, ?_, ?_⟩
      · show (if g = f then (g, v) :: ks.zip us else (g, w) :: putF f v (ks.zip us)) = (if g = f then g :: ks else g :: putK f ks).zip (w :: ws)
        rw [if_neg hg, if_neg hg, e1] <;> rfl
      · show (if g = f then g :: ks else g :: putK f ks).length = (if g = f then d :: l else x :: putL f d ks l).length
        rw [if_neg hg, if_neg hg, List.length_cons, List.length_cons, e2]
      · show RL K μ G (if g = f then d :: l else x :: putL f d ks l) (w :: ws)
        rw [if_neg hg]
        exact RL.cons rw' e3
/-- what of a class must be known for its attribute f -/
structure CA (K : PySem.W.Frag) (c f : Str) : Prop where
  cl : Cls K (He.ga K c)
  na : NoAttr K (He.ga K c) f
theorem ss_setAt {f : Str} {cs : List Str} (hc : ∀ c ∈ cs, CA K c f) (ho : SimE K W to o) (he : SimE K W te e) : SimS K W (sFld K to te f) (mSetAt cs f o e) := fun σ H ρ h G μ rel D => by
  unfold mSetAt
  have A := he σ H ρ h G μ rel
  cases ea : e ρ h with
  | bad => trivial
  | exc z h1 =>
    rw [ea] at A
    intro k
    exact A _ fun d H' G' μ' r1 x1 q => k d σ H' G' μ' r1 x1 q
  | ok d h1 =>
    rw [ea] at A
    dsimp only
    cases eo : o ρ h1 with
    | bad => trivial
    | exc z h2 =>
      intro k
      refine A _ fun v H1 G1 μ1 r1 x1 rv => ?_
      have B := ho σ H1 ρ h1 G1 μ1 r1 (fun x H2 => ∃ a C dx fs, x = .ref a ∧ H2 a = some (.ins C dx fs) ∧ Cls K C ∧ NoAttr K C f ∧ fs.length < 1000 ∧ D.nx σ (upd H2 a (.ins C dx (putF f v fs))))
      rw [eo] at B
      exact B fun d H' G' μ' r2 x2 q => k d σ H' G' μ' r2 (x1.trans x2) q
    | ok p h2 =>
      cases p with
      | ref c =>
        dsimp only
        cases ec : h2[c]? with
        | none => trivial
        | some oo =>
          cases oo with
          | none => trivial
          | some mo =>
            cases mo with
            | lst _ => trivial
            | ins n ks l =>
              dsimp only
              by_cases hn : n ∈ cs ∧ ks.length < 1000
              · rw [if_pos hn]
                intro k
                refine A _ fun v H1 G1 μ1 r1 x1 rv => ?_
                have B := ho σ H1 ρ h1 G1 μ1 r1 (fun x H2 => ∃ a C dx fs, x = .ref a ∧ H2 a = some (.ins C dx fs) ∧ Cls K C ∧ NoAttr K C f ∧ fs.length < 1000 ∧ D.nx σ (upd H2 a (.ins C dx (putF f v fs))))
                rw [eo] at B
                refine B fun u H2 G2 μ2 r2 x2 ru => ?_
                obtain ⟨pa, f1, f2⟩ := ru
                obtain ⟨pb, g1, g2, dx, vs, g3, gl, g4⟩ := r2.hp.cont c _ ec
                rw [f1] at g1
                cases g1
                obtain ⟨us, p1, p2, p3⟩ := put_zip f d v (R.mono x2 rv) gl g4
                have hlen : (ks.zip vs).length < 1000 := by
                  rw [List.length_zip]
                  have := hn.2
                  omega
                have hw : RM K μ2 G2 (.ins n (putK f ks) (putL f d ks l)) (some (.ins (He.ga K n) dx (putF f v (ks.zip vs)))) := ⟨dx, us, by rw [p1], p2, p3⟩
                refine ⟨pa, _, dx, _, f2, g3, (hc n hn.1).cl, (hc n hn.1).na, hlen, ?_⟩
                exact k σ _ G2 μ2 ⟨r2.hp.write ec f1 hw, r2.sl⟩ (x1.trans x2)
              · rw [if_neg hn]
                trivial
      | _ => trivial
theorem se_app (ho : SimE K W to o) (he : SimE K W te e) : SimE K W (tBM K "list" rAppend to (tCons te tNil)) (mApp o e) := fun σ H ρ h G μ rel Q => by
  unfold mApp
  have A := ho σ H ρ h G μ rel
  cases eo : o ρ h with
  | bad => trivial
  | exc z h1 =>
    rw [eo] at A
    exact A _
  | ok p h1 =>
    rw [eo] at A
    cases p with
    | ref c =>
      dsimp only
      have ty : ∀ {v : V} {H1 : Hp} {G1 : Hp} {μ1 : List Addr}, Rel K σ H1 ρ h1 G1 μ1 → (∃ l, h1[c]? = some (some (MO.lst l))) → R K μ1 G1 (.ref c) v → tyV K "list" v H1 := fun {v H1 G1 μ1} r1 hl rv => by
        obtain ⟨l, hl⟩ := hl
        obtain ⟨pa, f1, f2⟩ := rv
        obtain ⟨pb, g1, g2, vs, g3, g4⟩ := r1.hp.cont c _ hl
        rw [f1] at g1
        cases g1
        rw [f2]
        exact .inl ⟨rfl, vs, SqL.of g3⟩
      by_cases hl0 : isLc h1 c = true
      · have hl := isLc_ok hl0
        rw [if_pos hl0]
        cases ee : e ρ h1 with
        | bad => trivial
        | exc z h2 =>
          intro k
          refine A _ fun v H1 G1 μ1 r1 x1 rv => ⟨ty r1 hl rv, ?_⟩
          have B := he σ H1 ρ h1 G1 μ1 r1 (fun y H2 => rAppend v [y] H2 Q)
          rw [ee] at B
          exact B (k.mono x1)
        | ok d h2 =>
          dsimp only
          cases ec : h2[c]? with
          | none => trivial
          | some oo =>
            cases oo with
            | none => trivial
            | some mo =>
              cases mo with
              | ins _ _ _ => trivial
              | lst ll =>
                dsimp only
                by_cases hz : ll.length < sizeLine
                · rw [if_pos hz]
                  intro k
                  refine A _ fun v H1 G1 μ1 r1 x1 rv => ⟨ty r1 hl rv, ?_⟩
                  have B := he σ H1 ρ h1 G1 μ1 r1 (fun y H2 => rAppend v [y] H2 Q)
                  rw [ee] at B
                  refine B fun u H2 G2 μ2 r2 x2 ru => ?_
                  obtain ⟨pa, f1, f2⟩ := R.mono x2 rv
                  obtain ⟨pb, g1, g2, vs, g3, g4⟩ := r2.hp.cont c _ ec
                  rw [f1] at g1
                  cases g1
                  have hw : RM K μ2 G2 (.lst (ll ++ [d])) (some (.lst (vs ++ [u]))) := ⟨_, rfl, RL.app g4 (RL.cons ru RL.nil)⟩
                  exact ⟨pa, vs, u, f2, rfl, g3, by rw [g4.length]; exact hz, k .non _ G2 μ2 ⟨r2.hp.write ec f1 hw, r2.sl⟩ (x1.trans x2) rfl⟩
                · rw [if_neg hz]
                  trivial
      · rw [if_neg hl0]
        trivial
    | _ => trivial
theorem se_ext (ho : SimE K W to o) (he : SimE K W te e) : SimE K W (tBM K "list" rExtend to (tCons te tNil)) (mExt o e) := fun σ H ρ h G μ rel Q => by
  unfold mExt
  have A := ho σ H ρ h G μ rel
  cases eo : o ρ h with
  | bad => trivial
  | exc z h1 =>
    rw [eo] at A
    exact A _
  | ok p h1 =>
    rw [eo] at A
    cases p with
    | ref c =>
      dsimp only
      have ty : ∀ {v : V} {H1 : Hp} {G1 : Hp} {μ1 : List Addr}, Rel K σ H1 ρ h1 G1 μ1 → (∃ l, h1[c]? = some (some (MO.lst l))) → R K μ1 G1 (.ref c) v → tyV K "list" v H1 := fun {v H1 G1 μ1} r1 hl rv => by
        obtain ⟨l, hl⟩ := hl
        obtain ⟨pa, f1, f2⟩ := rv
        obtain ⟨pb, g1, g2, vs, g3, g4⟩ := r1.hp.cont c _ hl
        rw [f1] at g1
        cases g1
        rw [f2]
        exact .inl ⟨rfl, vs, SqL.of g3⟩
      by_cases hl0 : isLc h1 c = true
      · have hl := isLc_ok hl0
        rw [if_pos hl0]
        cases ee : e ρ h1 with
        | bad => trivial
        | exc z h2 =>
          intro k
          refine A _ fun v H1 G1 μ1 r1 x1 rv => ⟨ty r1 hl rv, ?_⟩
          have B := he σ H1 ρ h1 G1 μ1 r1 (fun y H2 => rExtend v [y] H2 Q)
          rw [ee] at B
          exact B (k.mono x1)
        | ok d h2 =>
          dsimp only
          cases ec : h2[c]? with
          | none => trivial
          | some oo =>
            cases oo with
            | none => trivial
            | some mo =>
              cases mo with
              | ins _ _ _ => trivial
              | lst ll =>
                cases d with
                | lst m =>
                  dsimp only
                  by_cases hz : ll.length + m.length ≤ sizeLine
                  · rw [if_pos hz]
                    intro k
                    refine A _ fun v H1 G1 μ1 r1 x1 rv => ⟨ty r1 hl rv, ?_⟩
                    have B := he σ H1 ρ h1 G1 μ1 r1 (fun y H2 => rExtend v [y] H2 Q)
                    rw [ee] at B
                    refine B fun u H2 G2 μ2 r2 x2 ru => ?_
                    obtain ⟨pa, f1, f2⟩ := R.mono x2 rv
                    obtain ⟨pb, g1, g2, vs, g3, g4⟩ := r2.hp.cont c _ ec
                    rw [f1] at g1
                    cases g1
                    obtain ⟨pc, us, w1, w2, w3⟩ := ru
                    have hw : RM K μ2 G2 (.lst (ll ++ m)) (some (.lst (vs ++ us))) := ⟨_, rfl, RL.app g4 w3⟩
                    exact ⟨pa, pc, vs, us, f2, by rw [w1], g3, r2.hp.ex _ _ w2, by rw [g4.length, w3.length]; exact hz, k .non _ G2 μ2 ⟨r2.hp.write ec f1 hw, r2.sl⟩ (x1.trans x2) rfl⟩
                  · rw [if_neg hz]
                    trivial
                | _ => trivial
      · rw [if_neg hl0]
        trivial
    | _ => trivial
/-- a step that only the meaning takes -/
theorem ss_frz {i : Nat} (hs : SimS K W t x) : SimS K W t (mSeq (mFrz i) x) := fun σ H ρ h G μ rel D => by
  unfold mSeq mFrz
  have plain : match x ρ h with
    | .bad => True
    | .ok f ρ' h' => (∀ σ' H' G' μ', Rel K σ' H' ρ' h' G' μ' → Ext G μ G' μ' → FlK K D σ' H' G' μ' f) → t D σ H
    | .exc e ρ' h' => (∀ d σ' H' G' μ', Rel K σ' H' ρ' h' G' μ' → Ext G μ G' μ' → RExc K μ' G' e d → W (.ref (He.ga K e.cls)) d σ' H') → t D σ H := hs σ H ρ h G μ rel D
  cases ei : ρ[i]? with
  | none => exact plain
  | some oo =>
    cases oo with
    | none => exact plain
    | some d =>
      cases d with
      | ref c =>
        dsimp only
        cases ec : h[c]? with
        | none => trivial
        | some om =>
          cases om with
          | none => trivial
          | some mo =>
            obtain ⟨v, sv, pa, f1, f2⟩ := rel.sl.2 i _ ei
            obtain ⟨pb, g1, g2, g3⟩ := rel.hp.cont c _ ec
            rw [f1] at g1
            cases g1
            cases hpa : H pa with
            | none => exact absurd hpa (RM.ne g3)
            | some ho =>
              obtain ⟨fz, xt⟩ := rel.hp.freeze ec f1 hpa
              have slot : ∀ d', R K μ (upd G pa ho) d' v → RelS K σ (ρ.set i (some d')) (upd G pa ho) μ := fun d' rd => by
                refine ⟨by rw [List.length_set]; exact rel.sl.1, fun j e he => ?_⟩
                by_cases hj : i = j
                · subst hj
                  have hi : i < ρ.length := (List.getElem?_eq_some_iff.mp ei).1
                  rw [List.getElem?_set_self hi] at he
                  cases he
                  exact ⟨v, sv, rd⟩
                · rw [List.getElem?_set_ne hj] at he
                  obtain ⟨u, e1, r1⟩ := rel.sl.2 j e he
                  exact ⟨u, e1, R.mono xt r1⟩
              cases mo with
              | lst l =>
                dsimp only
                obtain ⟨vs, e1, e2⟩ := g3
                rw [hpa] at e1
                cases e1
                have A := hs σ H (ρ.set i (some (.lst l))) (h.set c none) _ μ ⟨fz, slot _ ⟨pa, vs, f2, upd_same, RL.mono xt e2⟩⟩ D
                cases ea : x (ρ.set i (some (.lst l))) (h.set c none) with
                | bad => trivial
                | exc z ρ1 h1 =>
                  rw [ea] at A
                  intro k
                  exact A fun d σ1 H1 G1 μ1 r1 x1 q => k d σ1 H1 G1 μ1 r1 (xt.trans x1) q
                | ok f ρ1 h1 =>
                  rw [ea] at A
                  intro k
                  exact A fun σ1 H1 G1 μ1 r1 x1 => k σ1 H1 G1 μ1 r1 (xt.trans x1)
              | ins n ks l =>
                dsimp only
                obtain ⟨dx, vs, e1, el, e2⟩ := g3
                rw [hpa] at e1
                cases e1
                have A := hs σ H (ρ.set i (some (.obj n ks l))) (h.set c none) _ μ ⟨fz, slot _ ⟨pa, dx, vs, f2, upd_same, el, RL.mono xt e2⟩⟩ D
                cases ea : x (ρ.set i (some (.obj n ks l))) (h.set c none) with
                | bad => trivial
                | exc z ρ1 h1 =>
                  rw [ea] at A
                  intro k
                  exact A fun d σ1 H1 G1 μ1 r1 x1 q => k d σ1 H1 G1 μ1 r1 (xt.trans x1) q
                | ok f ρ1 h1 =>
                  rw [ea] at A
                  intro k
                  exact A fun σ1 H1 G1 μ1 r1 x1 => k σ1 H1 G1 μ1 r1 (xt.trans x1)
      | _ => exact plain
end
end Mi

set_option maxRecDepth 100000
set_option maxHeartbeats 4000000
/-! Attributes, calls, defs. -/
namespace Mi
open PySem PySem.Spec L2

/-! ### attributes -/
def mAt (cs : List Str) (f : Str) (o : ME) : ME := fun ρ h => match o ρ h with
  | .bad => .bad
  | .exc x h1 => .exc x h1
  | .ok (.obj n ks l) h1 => if n ∈ cs then (match (ks.zip l).lookup f with
    | some d => .ok d h1
    | none => .bad) else .bad
  | .ok (.ref c) h1 => (match h1[c]? with
    | some (some (.ins n ks l)) => if n ∈ cs then (match (ks.zip l).lookup f with
      | some d => .ok d h1
      | none => .bad) else .bad
    | _ => .bad)
  | .ok _ _ => .bad
theorem RL.lookup {K : PySem.W.Frag} {μ : List Addr} {G : Hp} {f : Str} {d : AV} : ∀ {ks : List Str} {l : List AV} {vs : List V}, RL K μ G l vs → (ks.zip l).lookup f = some d → ∃ v, (ks.zip vs).lookup f = some v ∧ R K μ G d v
  | [], _, _, _, e => by
    rw [List.zip_nil_left] at e
    cases e
  | _ :: _, [], _, _, e => by
    rw [List.zip_nil_right] at e
    cases e
  | g :: ks, x :: l, vs, r, e => by
    obtain ⟨v, us, ev, rv, rs⟩ := r.inv
    subst ev
    rw [List.zip_cons_cons, List.lookup_cons] at e ⊢
    cases q : f == g with
    | true =>
      rw [q] at e
      cases e
      exact ⟨v, rfl, rv⟩
    | false =>
      rw [q] at e
      exact RL.lookup rs e
section
variable {K : PySem.W.Frag} {W : WX2} {to te ta : TE} {o e a : ME} {f : Str} {cs : List Str}
theorem se_at (hc : ∀ c ∈ cs, CA K c f) (ho : SimE K W to o) : SimE K W (tFld K to f) (mAt cs f o) := fun σ H ρ h G μ rel Q => by
  unfold mAt
  have A := ho σ H ρ h G μ rel
  cases eo : o ρ h with
  | bad => trivial
  | exc z h1 =>
    rw [eo] at A
    exact A _
  | ok p h1 =>
    rw [eo] at A
    cases p with
    | obj n ks l =>
      dsimp only
      by_cases hn : n ∈ cs
      · rw [if_pos hn]
        cases el : (ks.zip l).lookup f with
        | none => trivial
        | some d =>
          intro k
          refine A _ fun v H1 G1 μ1 r1 x1 rv => ?_
          obtain ⟨pa, dx, vs, e1, e2, e3, e4⟩ := rv
          obtain ⟨w, e5, e6⟩ := RL.lookup e4 el
          exact ⟨pa, _, dx, _, w, e1, r1.hp.ex _ _ e2, (hc n hn).cl, (hc n hn).na, e5, k w H1 G1 μ1 r1 x1 e6⟩
      · rw [if_neg hn]
        trivial
    | ref c =>
      dsimp only
      cases ec : h1[c]? with
      | none => trivial
      | some oo =>
        cases oo with
        | none => trivial
        | some mo =>
          cases mo with
          | lst _ => trivial
          | ins n ks l =>
            dsimp only
            by_cases hn : n ∈ cs
            · rw [if_pos hn]
              cases el : (ks.zip l).lookup f with
              | none => trivial
              | some d =>
                intro k
                refine A _ fun v H1 G1 μ1 r1 x1 rv => ?_
                obtain ⟨pa, f1, f2⟩ := rv
                obtain ⟨pb, g1, g2, dx, vs, g3, gl, g4⟩ := r1.hp.cont c _ ec
                rw [f1] at g1
                cases g1
                obtain ⟨w, e5, e6⟩ := RL.lookup g4 el
                exact ⟨pa, _, dx, _, w, f2, g3, (hc n hn).cl, (hc n hn).na, e5, k w H1 G1 μ1 r1 x1 e6⟩
            · rw [if_neg hn]
              trivial
    | _ => trivial
end

/-! ### what a def promises -/
def spM (K : PySem.W.Frag) (n : Nat) (F : Fn) : Sp := fun vs H Q E => ∃ args h G μ, RelH K H h G μ ∧ RL K μ G args vs ∧ args.length = n ∧ match F args h with
  | .bad => False
  | .ok d h' => ∀ v H' G' μ', RelH K H' h' G' μ' → Ext G μ G' μ' → R K μ' G' d v → Q v H'
  | .exc e h' => ∀ d H' G' μ', RelH K H' h' G' μ' → Ext G μ G' μ' → RExc K μ' G' e d → E (.ref (He.ga K e.cls)) d H'
def fnOf (m : MS) (n : Nat) : Fn := fun args h => match m (args.map some ++ List.replicate (n - args.length) none) h with
  | .ok (.rt d) _ h' => .ok d h'
  | .ok .nx _ h' => .ok .non h'
  | .exc e _ h' => .exc e h'
  | _ => .bad
abbrev W0 : WX2 := fun _ _ _ _ => False
theorem spM.len {K : PySem.W.Frag} {n : Nat} {F : Fn} {vs : List V} {H : Hp} {Q : VK} {E : XK} (h : spM K n F vs H Q E) : vs.length = n := by
  obtain ⟨args, hh, G, μ, _, r, e, _⟩ := h
  rw [r.length, e]
theorem start_rel {K : PySem.W.Frag} {G : Hp} {μ : List Addr} {args : List AV} {vs : List V} {N : List Str} (r : RL K μ G args vs) : RelS K (start N vs) (args.map some ++ List.replicate (N.length - args.length) none) G μ := by
  have hl := r.length
  refine ⟨?_, fun i d e => ?_⟩
  · show (vs.map some ++ List.replicate (N.length - vs.length) none).length = _
    rw [List.length_append, List.length_append, List.length_map, List.length_map, List.length_replicate, List.length_replicate, hl]
  · show ∃ v, (vs.map some ++ List.replicate (N.length - vs.length) none)[i]? = some (some v) ∧ R K μ G d v
    by_cases hi : i < args.length
    · rw [List.getElem?_append_left (by rw [List.length_map]; exact hi), List.getElem?_map] at e
      cases q : args[i]? with
      | none =>
        rw [q] at e
        cases e
      | some d' =>
        rw [q] at e
        cases e
        obtain ⟨v, e1, e2⟩ := r.get q
        exact ⟨v, by rw [List.getElem?_append_left (by rw [List.length_map, hl]; exact hi), List.getElem?_map, e1] <;> rfl, e2⟩
    · rw [List.getElem?_append_right (by rw [List.length_map]; omega)] at e
      have := (List.getElem?_eq_some_iff.mp e).2
      rw [List.getElem_replicate] at this
      cases this
/-- without what it may raise -/
def noX (F : Fn) : Fn := fun args h => match F args h with
  | .ok d h' => .ok d h'
  | _ => .bad
abbrev FnK (P : Program) (w : World) (K : PySem.W.Frag) (mg : Str → Option Value) (base : Heap) (k : Nat) (f : Addr) (fd : FuncData) (ps : List Str) (F : Fn) : Prop := FnOk P w K mg base (L2.CX P w) k f fd ps (spM K ps.length F)
theorem FnOk.more {P : Program} {w : World} {K : PySem.W.Frag} {mg : Str → Option Value} {base : Heap} {k : Nat} {f : Addr} {fd : FuncData} {ps : List Str} {F F' : Fn} (h : FnK P w K mg base k f fd ps F) (e : ∀ args h, F' args h = F args h ∨ F' args h = .bad) : FnK P w K mg base k f fd ps F' := by
  refine FnOk.imp h fun vs H Q E q => ?_
  obtain ⟨args, hh, G, μ, rh, ra, el, q⟩ := q
  refine ⟨args, hh, G, μ, rh, ra, el, ?_⟩
  rcases e args hh with z | z
  · rw [z] at q
    exact q
  · rw [z] at q
    exact q.elim
/-- a def that raises nothing -/
theorem fn_ok {P : Program} {w : World} {K : PySem.W.Frag} {mg : Str → Option Value} {base : Heap} {x qual : Str} {params : Arguments} {body : List Stmt} {scope : Scope} {dvs : List V} {kws : List (Str × V)} {f : Addr} {fd : FuncData} {N ps : List Str} {k : Nat} {m : MS} {CX : CXT}
    (F : FunD K x qual params body scope dvs kws f fd) (S : FnScope N ps scope)
    (hb : ∀ (cdv : Value) (A : Around) (outer : List Env) (s : Shared) (H : Hp) (E : XK), Room k (A.deeper (PyProof.Rows.envOfC qual scope s.heap.objs.size f cdv)) → PSsm (cxOf CX P w K mg base N qual scope f cdv A outer s H E).nox W0 body m) :
    FnOk P w K mg base CX (k + 1) f fd ps (spM K ps.length (noX (fnOf m N.length))) := by
  refine F.ok S (fun vs H Q E h => h.len) (fun cdv A outer s H vs Q E hr h => ⟨_, (hb cdv A outer s H E hr).p.nox, ?_⟩)
  obtain ⟨args, hh, G, μ, rh, ra, el, q⟩ := h
  refine ⟨args.map some ++ List.replicate (N.length - args.length) none, hh, G, μ, ⟨rh, start_rel ra⟩, ?_⟩
  unfold noX fnOf at q
  revert q
  cases m (args.map some ++ List.replicate (N.length - args.length) none) hh with
  | bad => exact fun q => q.elim
  | exc e ρ' h' => exact fun q => q.elim
  | ok f ρ' h' =>
    cases f with
    | nx => exact fun q σ' H' G' μ' rel x1 => q .non H' G' μ' rel.hp x1 rfl
    | rt d => exact fun q σ' H' G' μ' rel x1 v rv => q v H' G' μ' rel.hp x1 rv
    | bk => exact fun q => q.elim
    | ct => exact fun q => q.elim
/-- a def that may raise -/
theorem fn_okX {P : Program} {w : World} {K : PySem.W.Frag} {mg : Str → Option Value} {base : Heap} {x qual : Str} {params : Arguments} {body : List Stmt} {scope : Scope} {dvs : List V} {kws : List (Str × V)} {f : Addr} {fd : FuncData} {N ps : List Str} {k : Nat} {m : MS}
    (F : FunD K x qual params body scope dvs kws f fd) (S : FnScope N ps scope)
    (hb : ∀ (cdv : Value) (A : Around) (outer : List Env) (s : Shared) (H : Hp) (E : XK), Room k (A.deeper (PyProof.Rows.envOfC qual scope s.heap.objs.size f cdv)) → PSsm (cxOf (L2.CX P w) P w K mg base N qual scope f cdv A outer s H E) (fun cls d _ H' => E cls d H') body m) :
    FnK P w K mg base (k + 1) f fd ps (fnOf m N.length) := by
  refine F.ok S (fun vs H Q E h => h.len) (fun cdv A outer s H vs Q E hr h => ⟨_, (hb cdv A outer s H E hr).p, ?_⟩)
  obtain ⟨args, hh, G, μ, rh, ra, el, q⟩ := h
  refine ⟨args.map some ++ List.replicate (N.length - args.length) none, hh, G, μ, ⟨rh, start_rel ra⟩, ?_⟩
  unfold fnOf at q
  revert q
  cases m (args.map some ++ List.replicate (N.length - args.length) none) hh with
  | bad => exact fun q => q.elim
  | exc e ρ' h' => exact fun q d σ' H' G' μ' rel x1 re => q d H' G' μ' rel.hp x1 re
  | ok f ρ' h' =>
    cases f with
    | nx => exact fun q σ' H' G' μ' rel x1 => q .non H' G' μ' rel.hp x1 rfl
    | rt d => exact fun q σ' H' G' μ' rel x1 v rv => q v H' G' μ' rel.hp x1 rv
    | bk => exact fun q => q.elim
    | ct => exact fun q => q.elim

theorem fd_one {K : PySem.W.Frag} {x qual : Str} {params : Arguments} {body : List Stmt} {scope : Scope} {dvs : List V} {kws : List (Str × V)} {f : Addr} {fd fd2 : FuncData} (F : FunD K x qual params body scope dvs kws f fd) (F2 : FunD K x qual params body scope dvs kws f fd2) : fd = fd2 := by
  obtain ⟨_, _, _, _, _, _, _, _, _, _, _, l, _⟩ := F.ex
  obtain ⟨_, _, _, _, _, _, _, _, _, _, _, l2, _⟩ := F2.ex
  rw [l] at l2
  cases l2
  rfl

/-! ### data without cells -/
mutual
def clsd : AV → Bool
  | .tup l => clsdL l
  | .lst l => clsdL l
  | .lstR l => clsdL l
  | .obj _ _ l => clsdL l
  | .ref _ => false
  | _ => true
def clsdL : List AV → Bool
  | [] => true
  | x :: l => clsd x && clsdL l
end
def MO.clsd : MO → Bool
  | .lst l => clsdL l
  | .ins _ _ l => clsdL l
mutual
theorem R.any {K : PySem.W.Frag} {G : Hp} {μ μ' : List Addr} : ∀ {d : AV} {v : V}, clsd d = true → R K μ G d v → R K μ' G d v
  | .non, _, _, h => h
  | .bl _, _, _, h => h
  | .int _, _, _, h => h
  | .str _, _, _, h => h
  | .ty _, _, _, h => h
  | .tup l, v, c, h => by
    obtain ⟨a, vs, e, s, r⟩ := h
    exact ⟨a, vs, e, s, RL.any c r⟩
  | .lst l, v, c, h => by
    obtain ⟨a, vs, e, s, r⟩ := h
    exact ⟨a, vs, e, s, RL.any c r⟩
  | .lstR l, v, c, h => by
    obtain ⟨a, vs, e, s, r⟩ := h
    exact ⟨a, vs, e, s, RL.any c r⟩
  | .obj _ ks l, v, c, h => by
    obtain ⟨a, dx, vs, e, s, le, r⟩ := h
    exact ⟨a, dx, vs, e, s, le, RL.any c r⟩
  | .ref i, v, c, h => by cases c
theorem RL.any {K : PySem.W.Frag} {G : Hp} {μ μ' : List Addr} : ∀ {d : List AV} {v : List V}, clsdL d = true → RL K μ G d v → RL K μ' G d v
  | [], _, _, h => h
  | y :: l, vs, c, h => by
    obtain ⟨c1, c2⟩ := Bool.and_eq_true_iff.mp (show (clsd y && clsdL l) = true from c)
    obtain ⟨v, r, e, h1, h2⟩ := h
    exact ⟨v, r, e, R.any c1 h1, RL.any c2 h2⟩
end
mutual
theorem R.back {K : PySem.W.Frag} {G G' : Hp} {μ μ' : List Addr} (pre : μ <+: μ') : ∀ {d : AV} {v u : V}, R K μ G d u → R K μ' G' d v → R K μ G' d v
  | .non, _, _, _, h => h
  | .bl _, _, _, _, h => h
  | .int _, _, _, _, h => h
  | .str _, _, _, _, h => h
  | .ty _, _, _, _, h => h
  | .tup l, v, u, g, h => by
    obtain ⟨_, _, _, _, rg⟩ := g
    obtain ⟨a, vs, e, s, r⟩ := h
    exact ⟨a, vs, e, s, RL.back pre rg r⟩
  | .lst l, v, u, g, h => by
    obtain ⟨_, _, _, _, rg⟩ := g
    obtain ⟨a, vs, e, s, r⟩ := h
    exact ⟨a, vs, e, s, RL.back pre rg r⟩
  | .lstR l, v, u, g, h => by
    obtain ⟨_, _, _, _, rg⟩ := g
    obtain ⟨a, vs, e, s, r⟩ := h
    exact ⟨a, vs, e, s, RL.back pre rg r⟩
  | .obj _ ks l, v, u, g, h => by
    obtain ⟨_, _, _, _, _, _, rg⟩ := g
    obtain ⟨a, dx, vs, e, s, le, r⟩ := h
    exact ⟨a, dx, vs, e, s, le, RL.back pre rg r⟩
  | .ref i, v, u, g, h => by
    obtain ⟨a, e1, e2⟩ := g
    obtain ⟨b, f1, f2⟩ := h
    rw [pre_get pre e1] at f1
    cases f1
    exact ⟨a, e1, f2⟩
theorem RL.back {K : PySem.W.Frag} {G G' : Hp} {μ μ' : List Addr} (pre : μ <+: μ') : ∀ {d : List AV} {v u : List V}, RL K μ G d u → RL K μ' G' d v → RL K μ G' d v
  | [], _, _, _, h => h
  | y :: l, vs, us, g, h => by
    obtain ⟨_, _, _, g1, g2⟩ := g
    obtain ⟨v, r, e, h1, h2⟩ := h
    exact ⟨v, r, e, R.back pre g1 h1, RL.back pre g2 h2⟩
end
/-- the cells that a call has made end with it -/
def DropOk (h h' : AHeap) : Prop := h.length ≤ h'.length ∧ ∀ i mo, i < h.length → h'[i]? = some (some mo) → h[i]? = some (some mo) ∨ mo.clsd = true
open Classical in
noncomputable def dropF (F : Fn) : Fn := fun args h => match F args h with
  | .ok d h' => if clsd d = true ∧ DropOk h h' then .ok d (h'.take h.length) else .bad
  | _ => .bad
theorem RelH.drop {K : PySem.W.Frag} {H H' : Hp} {h h' : AHeap} {G G' : Hp} {μ μ' : List Addr} (r0 : RelH K H h G μ) (r : RelH K H' h' G' μ') (x : Ext G μ G' μ') (ok : DropOk h h') : RelH K H' (h'.take h.length) G' μ := by
  refine ⟨r.ex, by rw [List.length_take, r0.len]; have := ok.1; omega, fun i mo e => ?_, fun i j a mo mo' e1 e2 e3 e4 => ?_⟩
  · have hi : i < h.length := by
      have := (List.getElem?_eq_some_iff.mp e).1
      rw [List.length_take] at this
      omega
    rw [List.getElem?_take_of_lt hi] at e
    obtain ⟨a, f1, f2, f3⟩ := r.cont i mo e
    have hm : μ[i]? = some a := by
      have hlt : i < μ.length := by rw [r0.len]; exact hi
      have q := pre_get x.m (List.getElem?_eq_getElem hlt)
      rw [f1] at q
      rw [List.getElem?_eq_getElem hlt]
      exact q.symm
    refine ⟨a, hm, f2, ?_⟩
    rcases ok.2 i mo hi e with z | z
    · obtain ⟨b, g1, g2, g3⟩ := r0.cont i mo z
      cases mo with
      | lst l =>
        obtain ⟨us, _, w1⟩ := g3
        obtain ⟨vs, e1, e2⟩ := f3
        exact ⟨vs, e1, RL.back x.m w1 e2⟩
      | ins c ks l =>
        obtain ⟨_, us, _, _, w1⟩ := g3
        obtain ⟨dx, vs, e1, el, e2⟩ := f3
        exact ⟨dx, vs, e1, el, RL.back x.m w1 e2⟩
    · cases mo with
      | lst l =>
        obtain ⟨vs, e1, e2⟩ := f3
        exact ⟨vs, e1, RL.any z e2⟩
      | ins c ks l =>
        obtain ⟨dx, vs, e1, el, e2⟩ := f3
        exact ⟨dx, vs, e1, el, RL.any z e2⟩
  · have old : ∀ {i : Nat} {m : MO}, (h'.take h.length)[i]? = some (some m) → h'[i]? = some (some m) := fun {i m} e => by
      have hi : i < h.length := by
        have := (List.getElem?_eq_some_iff.mp e).1
        rw [List.length_take] at this
        omega
      rw [List.getElem?_take_of_lt hi] at e
      exact e
    exact r.inj i j a _ _ (old e1) (old e2) (pre_get x.m e3) (pre_get x.m e4)
theorem fn_drop {P : Program} {w : World} {K : PySem.W.Frag} {mg : Str → Option Value} {base : Heap} {k : Nat} {f : Addr} {fd : FuncData} {ps : List Str} {F : Fn} {CX : CXT} (h : FnOk P w K mg base CX k f fd ps (spM K ps.length F)) : FnOk P w K mg base CX k f fd ps (spM K ps.length (dropF F)) := by
  refine FnOk.imp h fun vs H Q E q => ?_
  obtain ⟨args, hh, G, μ, rh, ra, el, q⟩ := q
  refine ⟨args, hh, G, μ, rh, ra, el, ?_⟩
  unfold dropF at q
  revert q
  cases F args hh with
  | bad => exact fun q => q.elim
  | exc e h' => exact fun q => q.elim
  | ok d h' =>
    dsimp only
    by_cases hc : clsd d = true ∧ DropOk hh h'
    · rw [if_pos hc]
      exact fun q v H' G' μ' r' x' rv => q v H' G' μ (rh.drop r' x' hc.2) ⟨x'.g, List.prefix_rfl⟩ (R.any hc.1 rv)
    · rw [if_neg hc]
      exact fun q => q.elim

/-! ### calls -/
def mCall (n : Nat) (F : Fn) (ds : List AV) (a : MA) : ME := fun ρ h => match a ρ h with
  | .bad => .bad
  | .exc x h1 => .exc x h1
  | .ok l h1 => if (l ++ ds).length = n then (match F (l ++ ds) h1 with
    | .ok d h2 => .ok d h2
    | _ => .bad) else .bad
def isC (c m : Str) (h : AHeap) : AV → Bool
  | .obj c' ks _ => decide (c' = c) && !decide (m ∈ ks)
  | .ref i => (match h[i]? with
    | some (some (.ins c' ks _)) => decide (c' = c) && !decide (m ∈ ks)
    | _ => false)
  | _ => false
def mMeth (c m : Str) (n : Nat) (F : Fn) (ds : List AV) (o : ME) (a : MA) : ME := fun ρ h => match o ρ h with
  | .bad => .bad
  | .exc x h1 => .exc x h1
  | .ok x h1 => if isC c m h1 x = true then (match a ρ h1 with
    | .bad => .bad
    | .exc x h1 => .exc x h1
    | .ok l h2 => if (x :: (l ++ ds)).length = n then (match F (x :: (l ++ ds)) h2 with
      | .ok d h3 => .ok d h3
      | _ => .bad) else .bad) else .bad
open Classical in
noncomputable def mMake (c : Str) (n : Nat) (F : Fn) (ds : List AV) (a : MA) : ME := fun ρ h => match a ρ h with
  | .bad => .bad
  | .exc x h1 => .exc x h1
  | .ok l h1 => if (AV.non :: (l ++ ds)).length = n then (match F (.ref h1.length :: (l ++ ds)) (h1 ++ [some (.ins c [] [])]) with
    | .ok .non h2 => (match h2[h1.length]? with
      | some (some (.ins n ks vs)) => if clsdL vs = true ∧ DropOk h1 h2 then .ok (.obj n ks vs) (h2.take h1.length) else .bad
      | _ => .bad)
    | _ => .bad) else .bad
/-- C(..) as a cell -/
def mMakeC (c : Str) (n : Nat) (F : Fn) (ds : List AV) (a : MA) : ME := fun ρ h => match a ρ h with
  | .bad => .bad
  | .exc x h1 => .exc x h1
  | .ok l h1 => if (AV.non :: (l ++ ds)).length = n then (match F (.ref h1.length :: (l ++ ds)) (h1 ++ [some (.ins c [] [])]) with
    | .ok .non h2 => .ok (.ref h1.length) h2
    | _ => .bad) else .bad
theorem zip_no {m : Str} : ∀ {ks : List Str} {vs : List V}, m ∉ ks → (ks.zip vs).lookup m = none
  | [], _, _ => by rw [List.zip_nil_left] <;> rfl
  | _ :: _, [], _ => by rw [List.zip_nil_right] <;> rfl
  | g :: ks, v :: vs, h => by
    rw [List.zip_cons_cons, List.lookup_cons]
    have h1 : (m == g) = false := by
      rw [beq_eq_false_iff_ne]
      exact fun z => h (by rw [z]; exact List.mem_cons_self)
    rw [h1]
    exact zip_no fun z => h (List.mem_cons_of_mem _ z)
theorem isC_rel {K : PySem.W.Frag} {H : Hp} {h : AHeap} {G : Hp} {μ : List Addr} {c m : Str} {x : AV} {v : V} (rh : RelH K H h G μ) (r : R K μ G x v) (e : isC c m h x = true) : ∃ a dx fs, v = .ref a ∧ H a = some (.ins (He.ga K c) dx fs) ∧ fs.lookup m = none := by
  cases x with
  | obj c' ks l =>
    obtain ⟨e1, e2⟩ := Bool.and_eq_true_iff.mp (show (decide (c' = c) && !decide (m ∈ ks)) = true from e)
    have e1' := of_decide_eq_true e1
    subst e1'
    have e3 : m ∉ ks := fun z => by
      rw [decide_eq_true z] at e2
      cases e2
    obtain ⟨a, dx, vs, f1, f2, f3, f4⟩ := r
    exact ⟨a, dx, _, f1, rh.ex _ _ f2, zip_no e3⟩
  | ref i =>
    have e' : (match h[i]? with
      | some (some (.ins c' ks _)) => decide (c' = c) && !decide (m ∈ ks)
      | _ => false) = true := e
    cases q : h[i]? with
    | none =>
      rw [q] at e'
      cases e'
    | some oo =>
      rw [q] at e'
      cases oo with
      | none => cases e'
      | some mo =>
        cases mo with
        | lst _ => cases e'
        | ins c' ks l =>
          obtain ⟨e1, e2⟩ := Bool.and_eq_true_iff.mp (show (decide (c' = c) && !decide (m ∈ ks)) = true from e')
          have e1' := of_decide_eq_true e1
          subst e1'
          have e3 : m ∉ ks := fun z => by
            rw [decide_eq_true z] at e2
            cases e2
          obtain ⟨pa, f1, f2⟩ := r
          obtain ⟨pb, g1, g2, dx, vs, g3, gl, g4⟩ := rh.cont i _ q
          rw [f1] at g1
          cases g1
          exact ⟨pa, dx, _, f2, g3, zip_no e3⟩
  | _ => cases e
section
variable {K : PySem.W.Frag} {W : WX2} {to te ta : TE} {o : ME} {t : TA} {a : MA} {n : Nat} {F : Fn} {ds : List AV} {dvs : List V} {c m : Str}
theorem sp_run {H : Hp} {h : AHeap} {G : Hp} {μ : List Addr} {args : List AV} {vs : List V} {Q : VK} {E : XK} {d : AV} {h' : AHeap} (rh : RelH K H h G μ) (r : RL K μ G args vs) (hn : args.length = n) (e : F args h = .ok d h')
    (k : ∀ v H' G' μ', RelH K H' h' G' μ' → Ext G μ G' μ' → R K μ' G' d v → Q v H') : spM K n F vs H Q E := ⟨args, h, G, μ, rh, r, hn, by rw [e]; exact k⟩
theorem se_call (hd : ∀ μ G, RL K μ G ds dvs) (ha : SimA K W t a) : SimE K W (tCall (spM K n F) dvs E0 t) (mCall n F ds a) := fun σ H ρ h G μ rel Q => by
  unfold mCall
  have A := ha σ H ρ h G μ rel
  cases ea : a ρ h with
  | bad => trivial
  | exc z h1 =>
    rw [ea] at A
    exact A _
  | ok l h1 =>
    rw [ea] at A
    dsimp only
    by_cases hn : (l ++ ds).length = n
    · rw [if_pos hn]
      cases ef : F (l ++ ds) h1 with
      | bad => trivial
      | exc z h2 => trivial
      | ok d h2 =>
        intro k
        refine A _ fun vs H1 G1 μ1 r1 x1 rs => ?_
        exact sp_run r1.hp (RL.app rs (hd μ1 G1)) hn ef fun v H2 G2 μ2 r2 x2 rv => k v H2 G2 μ2 ⟨r2, r1.sl.mono x2⟩ (x1.trans x2) rv
    · rw [if_neg hn]
      trivial
theorem se_meth (hd : ∀ μ G, RL K μ G ds dvs) (ho : SimE K W to o) (ha : SimA K W t a) : SimE K W (tMeth (He.ga K c) m (spM K n F) dvs E0 to t) (mMeth c m n F ds o a) := fun σ H ρ h G μ rel Q => by
  unfold mMeth
  have O := ho σ H ρ h G μ rel
  cases eo : o ρ h with
  | bad => trivial
  | exc z h1 =>
    rw [eo] at O
    exact O _
  | ok x h1 =>
    rw [eo] at O
    dsimp only
    by_cases hc : isC c m h1 x = true
    · rw [if_pos hc]
      cases ea : a ρ h1 with
      | bad => trivial
      | exc z h2 =>
        intro k
        refine O _ fun v H1 G1 μ1 r1 x1 rv => ?_
        obtain ⟨pa, dx, fs, e1, e2, e3⟩ := isC_rel r1.hp rv hc
        have A := ha σ H1 ρ h1 G1 μ1 r1 (fun vs H2 => spM K n F (v :: (vs ++ dvs)) H2 Q E0)
        rw [ea] at A
        exact ⟨pa, dx, fs, e1, e2, e3, A (k.mono x1)⟩
      | ok l h2 =>
        dsimp only
        by_cases hn : (x :: (l ++ ds)).length = n
        · rw [if_pos hn]
          cases ef : F (x :: (l ++ ds)) h2 with
          | bad => trivial
          | exc z h3 => trivial
          | ok d h3 =>
            intro k
            refine O _ fun v H1 G1 μ1 r1 x1 rv => ?_
            obtain ⟨pa, dx, fs, e1, e2, e3⟩ := isC_rel r1.hp rv hc
            have A := ha σ H1 ρ h1 G1 μ1 r1 (fun vs H2 => spM K n F (v :: (vs ++ dvs)) H2 Q E0)
            rw [ea] at A
            refine ⟨pa, dx, fs, e1, e2, e3, A fun vs H2 G2 μ2 r2 x2 rs => ?_⟩
            exact sp_run r2.hp (RL.cons (R.mono x2 rv) (RL.app rs (hd μ2 G2))) hn ef fun v H3 G3 μ3 r3 x3 rv => k v H3 G3 μ3 ⟨r3, r2.sl.mono x3⟩ ((x1.trans x2).trans x3) rv
        · rw [if_neg hn]
          trivial
    · rw [if_neg hc]
      trivial
theorem new_ins {H : Hp} {h : AHeap} {G : Hp} {μ : List Addr} {x dx : Addr} {C : Addr} (r : RelH K H h G μ) (hC : C = He.ga K c) (hx : H x = none) (hdx : H dx = none) (ne : dx ≠ x) :
    RelH K (upd (upd H dx (.own x)) x (.ins C dx [])) (h ++ [some (.ins c [] [])]) G (μ ++ [x]) ∧ Ext G μ G (μ ++ [x]) ∧ (μ ++ [x])[h.length]? = some x := by
  have r1 : RelH K (upd H dx (.own x)) h G μ := r.other fun b o e => by rw [upd_ne (ne_of_none e hdx)]; exact e
  have hx1 : (upd H dx (.own x)) x = none := by rw [upd_ne ne.symm]; exact hx
  obtain ⟨g, y⟩ := r1.cell (o := .ins C dx []) (mo := .ins c [] []) hx1 ⟨dx, [], by rw [hC] <;> rfl, rfl, RL.nil⟩
  refine ⟨g, y, ?_⟩
  rw [← r.len, List.getElem?_append_right (Nat.le_refl _), Nat.sub_self]
  rfl
theorem se_makeC (hd : ∀ μ G, RL K μ G ds dvs) (ha : SimA K W t a) : SimE K W (tMake (He.ga K c) (spM K n F) dvs E0 t) (mMakeC c n F ds a) := fun σ H ρ h G μ rel Q => by
  unfold mMakeC
  have A := ha σ H ρ h G μ rel
  cases ea : a ρ h with
  | bad => trivial
  | exc z h1 =>
    rw [ea] at A
    exact A _
  | ok l h1 =>
    rw [ea] at A
    dsimp only
    by_cases hn : (AV.non :: (l ++ ds)).length = n
    · rw [if_pos hn]
      cases ef : F (.ref h1.length :: (l ++ ds)) (h1 ++ [some (.ins c [] [])]) with
      | bad => trivial
      | exc z h2 => trivial
      | ok d h2 =>
        cases d with
        | non =>
          intro k
          refine A _ fun vs H1 G1 μ1 r1 x1 rs x dx hx hdx ne => ?_
          obtain ⟨g, y, ix⟩ := new_ins (c := c) r1.hp rfl hx hdx ne
          exact sp_run (args := .ref h1.length :: (l ++ ds)) (d := .non) g (RL.cons (x := .ref h1.length) ⟨x, ix, rfl⟩ (RL.app (RL.mono y rs) (hd _ _))) hn ef fun v H2 G2 μ2 r2 x2 rv => ⟨rv, k _ H2 G2 μ2 ⟨r2, (r1.sl.mono y).mono x2⟩ ((x1.trans y).trans x2) ⟨x, pre_get x2.m ix, rfl⟩⟩
        | _ => trivial
    · rw [if_neg hn]
      trivial
theorem se_make (hd : ∀ μ G, RL K μ G ds dvs) (ha : SimA K W t a) : SimE K W (tMake (He.ga K c) (spM K n F) dvs E0 t) (mMake c n F ds a) := fun σ H ρ h G μ rel Q => by
  unfold mMake
  have A := ha σ H ρ h G μ rel
  cases ea : a ρ h with
  | bad => trivial
  | exc z h1 =>
    rw [ea] at A
    exact A _
  | ok l h1 =>
    rw [ea] at A
    dsimp only
    by_cases hn : (AV.non :: (l ++ ds)).length = n
    · rw [if_pos hn]
      cases ef : F (.ref h1.length :: (l ++ ds)) (h1 ++ [some (.ins c [] [])]) with
      | bad => trivial
      | exc z h2 => trivial
      | ok d h2 =>
        cases d with
        | non =>
          dsimp only
          cases ec : h2[h1.length]? with
          | none => trivial
          | some oo =>
            cases oo with
            | none => trivial
            | some mo =>
              cases mo with
              | lst _ => trivial
              | ins c' ks ws =>
                dsimp only
                by_cases hc : clsdL ws = true ∧ DropOk h1 h2
                · rw [if_pos hc]
                  intro k
                  refine A _ fun vs H1 G1 μ1 r1 x1 rs x dx hx hdx ne => ?_
                  obtain ⟨g, y, ix⟩ := new_ins (c := c) r1.hp rfl hx hdx ne
                  refine sp_run (args := .ref h1.length :: (l ++ ds)) (d := .non) g (RL.cons (x := .ref h1.length) ⟨x, ix, rfl⟩ (RL.app (RL.mono y rs) (hd _ _))) hn ef fun v H2 G2 μ2 r2 x2 rv => ⟨rv, ?_⟩
                  -- the new cell ends
                  have ix2 := pre_get x2.m ix
                  obtain ⟨pb, g1, g2, dx2, us, g3, gl, g4⟩ := r2.cont _ _ ec
                  rw [ix2] at g1
                  cases g1
                  have rH : RelH K H2 (h2.take h1.length) G2 μ1 := r1.hp.drop r2 (y.trans x2) hc.2
                  have hle : h1.length < h2.length := (List.getElem?_eq_some_iff.mp ec).1
                  have x3 : Ext G2 μ1 (upd G2 x (.ins (He.ga K c') dx2 (ks.zip us))) μ1 := ⟨fun b u q => by rw [upd_ne (ne_of_none q g2)]; exact q, List.prefix_rfl⟩
                  have rH' : RelH K H2 (h2.take h1.length) (upd G2 x (.ins (He.ga K c') dx2 (ks.zip us))) μ1 := by
                    refine ⟨fun b u q => ?_, rH.len, fun i mo e => ?_, rH.inj⟩
                    · by_cases hb : b = x
                      · subst hb
                        rw [upd_same] at q
                        rw [g3]
                        exact q
                      · rw [upd_ne hb] at q
                        exact rH.ex b u q
                    · obtain ⟨b, f1, f2, f3⟩ := rH.cont i mo e
                      have hi : i < h1.length := by
                        have := (List.getElem?_eq_some_iff.mp e).1
                        rw [List.length_take] at this
                        omega
                      have e' : h2[i]? = some (some mo) := by
                        rw [List.getElem?_take_of_lt hi] at e
                        exact e
                      have hne : b ≠ x := fun z => by
                        have := r2.inj i h1.length x mo _ e' ec (by rw [← z]; exact pre_get (y.trans x2).m f1) ix2
                        omega
                      exact ⟨b, f1, by rw [upd_ne hne]; exact f2, RM.mono x3 f3⟩
                  refine k _ H2 _ μ1 ⟨rH', (r1.sl.mono ⟨(y.trans x2).g, List.prefix_rfl⟩).mono x3⟩ ((x1.trans ⟨(y.trans x2).g, List.prefix_rfl⟩).trans x3) ?_
                  exact ⟨x, dx2, us, rfl, upd_same, gl, RL.mono x3 (RL.any hc.1 g4)⟩
                · rw [if_neg hc]
                  trivial
        | _ => trivial
    · rw [if_neg hn]
      trivial
end
end Mi

set_option maxRecDepth 100000
set_option maxHeartbeats 4000000
/-! Loops and comprehensions. -/
namespace Mi
open PySem PySem.Spec L2

/-! ### what is wanted behind a meaning -/
def KS (K : PySem.W.Frag) (W : WX2) (D : Ends) (G : Hp) (μ : List Addr) : RetS → Prop
  | .bad => False
  | .ok f ρ' h' => ∀ σ' H' G' μ', Rel K σ' H' ρ' h' G' μ' → Ext G μ G' μ' → FlK K D σ' H' G' μ' f
  | .exc e ρ' h' => ∀ d σ' H' G' μ', Rel K σ' H' ρ' h' G' μ' → Ext G μ G' μ' → RExc K μ' G' e d → W (.ref (He.ga K e.cls)) d σ' H'
theorem KS.mono {K : PySem.W.Frag} {W : WX2} {D : Ends} {G G' : Hp} {μ μ' : List Addr} (x : Ext G μ G' μ') : ∀ {r : RetS}, KS K W D G μ r → KS K W D G' μ' r
  | .bad, k => k
  | .ok _ _ _, k => fun σ2 H2 G2 μ2 r2 x2 => k σ2 H2 G2 μ2 r2 (x.trans x2)
  | .exc _ _ _, k => fun d σ2 H2 G2 μ2 r2 x2 q => k d σ2 H2 G2 μ2 r2 (x.trans x2) q
theorem SimS.go {K : PySem.W.Frag} {W : WX2} {t : TS} {m : MS} (s : SimS K W t m) {σ : L2.St} {H : Hp} {ρ : Env2} {h : AHeap} {G : Hp} {μ : List Addr} (rel : Rel K σ H ρ h G μ) (D : Ends) (k : KS K W D G μ (m ρ h)) : t D σ H := by
  have A := s σ H ρ h G μ rel D
  revert A k
  cases m ρ h with
  | bad => exact fun k => k.elim
  | ok f ρ' h' => exact fun k A => A k
  | exc e ρ' h' => exact fun k A => A k
theorem SimS.by {K : PySem.W.Frag} {W : WX2} {t : TS} {m : MS} (s : ∀ σ H ρ h G μ, Rel K σ H ρ h G μ → ∀ D : Ends, KS K W D G μ (m ρ h) → t D σ H) : SimS K W t m := fun σ H ρ h G μ rel D => by
  have A := s σ H ρ h G μ rel D
  revert A
  cases m ρ h with
  | bad => exact fun _ => trivial
  | ok f ρ' h' => exact fun A => A
  | exc e ρ' h' => exact fun A => A

/-! ### what is walked -/
abbrev MI := Env2 → AHeap → Ret (List AV)
def Walks (K : PySem.W.Frag) (J : It) (l : List AV) (G0 : Hp) (μ0 : List Addr) : Prop := ∀ H h G μ, RelH K H h G μ → Ext G0 μ0 G μ →
  (∀ i x, l[i]? = some x → J.go i H ∧ ∀ v H', J.yld i H v H' → ∃ G', RelH K H' h G' μ ∧ Ext G μ G' μ ∧ R K μ G' x v) ∧ J.stop l.length H
theorem Walks.mono {K : PySem.W.Frag} {J : It} {l : List AV} {G0 G1 : Hp} {μ0 μ1 : List Addr} (x : Ext G0 μ0 G1 μ1) (w : Walks K J l G0 μ0) : Walks K J l G1 μ1 := fun H h G μ r y => w H h G μ r (x.trans y)
def SimI (K : PySem.W.Frag) (W : WX2) (wi : TI) (m : MI) : Prop := ∀ σ H ρ h G μ, Rel K σ H ρ h G μ → ∀ P : It → Hp → Prop, match m ρ h with
  | .bad => True
  | .ok l h' => (∀ J H' G' μ', Rel K σ H' ρ h' G' μ' → Ext G μ G' μ' → Walks K J l G' μ' → P J H') → wi σ H P
  | .exc e h' => ExcK K W e σ ρ h' G μ → wi σ H P
/-- a list or a tuple that never changes -/
def iSeq (K : PySem.W.Frag) (tl : TE) : TI := fun σ H P => tl σ H fun x H1 => ∃ a, x = .ref a ∧ (((∃ xs, SqL K H1 a xs) ∧ P (Itl K a) H1) ∨ ((∃ xs, SqT K H1 a xs) ∧ P (Itt K a) H1))
theorem pi_seq {X : Cx} {tg l : Expr} {tl : TE} (hl : PE X l tl) : PI X tg l (iSeq X.K tl) := by
  refine ⟨fun pins s σ H P I h => ?_⟩
  refine thn (hl.run pins s σ H _ I h) fun v s1 ⟨x, H1, I1, r1, q1⟩ => ?_
  obtain ⟨a, e, q1⟩ := q1
  subst e
  cases r1
  rcases q1 with ⟨⟨xs, hq⟩, q⟩ | ⟨⟨xs, hq⟩, q⟩
  · obtain ⟨its, rv, p, hz⟩ := I1.list hq
    refine wpAny_pyIter_list p.isList ?_
    refine ⟨s1.heap.objs.size, [s1.heap.objs.size], _, _, H1, rfl, I1.kept (t' := s1.toks) fun b o e => Heap.get?_push_of_some _ e, turn_list a _, ⟨_, Heap.get?_push_size _ rfl, rfl, rfl⟩, fun b hb => ?_, q⟩
    have e : b = s1.heap.objs.size := by simpa using hb
    subst e
    exact I1.fpOk (Nat.le_refl _) (I1.hok.fresh (Nat.le_refl _))
  · obtain ⟨its, rv, p, hz⟩ := I1.tuple hq
    refine wpAny_pyIter_tuple (show s1.heap.IsTuple a its.toArray from p) ?_
    refine ⟨s1.heap.objs.size, [s1.heap.objs.size], _, _, H1, rfl, I1.kept (t' := s1.toks) fun b o e => Heap.get?_push_of_some _ e, turn_tuple a _, ⟨_, Heap.get?_push_size _ rfl, rfl, rfl⟩, fun b hb => ?_, q⟩
    have e : b = s1.heap.objs.size := by simpa using hb
    subst e
    exact I1.fpOk (Nat.le_refl _) (I1.hok.fresh (Nat.le_refl _))
def frzL : AV → Option (List AV)
  | .tup l => some l
  | .lst l => some l
  | .lstR l => some l
  | _ => none
def iSq (e : ME) : MI := fun ρ h => match e ρ h with
  | .bad => .bad
  | .exc x h1 => .exc x h1
  | .ok d h1 => match frzL d with
    | some l => .ok l h1
    | none => .bad
def iR1 (a : MA) : MI := fun ρ h => match a ρ h with
  | .bad => .bad
  | .exc x h1 => .exc x h1
  | .ok [.int j] h1 => if -(2 ^ 62) ≤ j ∧ j < 2 ^ 62 then .ok ((List.range j.toNat).map fun (i : Nat) => AV.int (i : Int)) h1 else .bad
  | .ok _ _ => .bad
def iR2 (a : MA) : MI := fun ρ h => match a ρ h with
  | .bad => .bad
  | .exc x h1 => .exc x h1
  | .ok [.int i, .int j] h1 => if -(2 ^ 62) ≤ i ∧ i < 2 ^ 62 ∧ -(2 ^ 62) ≤ j ∧ j < 2 ^ 62 then .ok ((List.range (j - i).toNat).map fun (k : Nat) => AV.int (i + (k : Int))) h1 else .bad
  | .ok _ _ => .bad
section
variable {K : PySem.W.Frag} {W : WX2} {te : TE} {e : ME} {ta : TA} {a : MA}
theorem walks_tup {a : Addr} {vs : List V} {l : List AV} {G : Hp} {μ : List Addr} (s : SqT K G a vs) (r : RL K μ G l vs) : Walks K (Itt K a) l G μ := fun H h G1 μ1 rh x => by
  refine ⟨fun i d e => ?_, vs, same_sqT rh.ex (same_sqT x.g s), by rw [r.length]; exact Nat.le_refl _⟩
  obtain ⟨v, e1, e2⟩ := r.get e
  refine ⟨⟨vs, v, same_sqT rh.ex (same_sqT x.g s), e1⟩, fun w H' y => ?_⟩
  obtain ⟨y1, y2⟩ := y
  subst y1
  have q := y2 vs (same_sqT rh.ex (same_sqT x.g s))
  rw [e1] at q
  cases q
  exact ⟨G1, rh, Ext.refl _ _, R.mono x e2⟩
theorem walks_lst {a : Addr} {vs : List V} {l : List AV} {G : Hp} {μ : List Addr} (s : SqL K G a vs) (r : RL K μ G l vs) : Walks K (Itl K a) l G μ := fun H h G1 μ1 rh x => by
  refine ⟨fun i d e => ?_, vs, rh.ex.seq (x.g.seq s), by rw [r.length]; exact Nat.le_refl _⟩
  obtain ⟨v, e1, e2⟩ := r.get e
  refine ⟨⟨vs, v, rh.ex.seq (x.g.seq s), e1⟩, fun w H' y => ?_⟩
  obtain ⟨y1, y2⟩ := y
  subst y1
  have q := y2 vs (rh.ex.seq (x.g.seq s))
  rw [e1] at q
  cases q
  exact ⟨G1, rh, Ext.refl _ _, R.mono x e2⟩
theorem walks_rng {lo : Int} {n : Nat} {G : Hp} {μ : List Addr} : Walks K (Itr lo n) ((List.range n).map fun (k : Nat) => AV.int (lo + (k : Int))) G μ := fun H h G1 μ1 rh x => by
  refine ⟨fun i d e => ?_, ?_⟩
  · rw [List.getElem?_map] at e
    by_cases hi : i < n
    · rw [List.getElem?_range hi] at e
      cases e
      refine ⟨hi, fun w H' y => ?_⟩
      obtain ⟨y1, y2⟩ := y
      subst y1 y2
      exact ⟨G1, rh, Ext.refl _ _, rfl⟩
    · rw [List.getElem?_eq_none (by rw [List.length_range]; omega)] at e
      cases e
  · show n ≤ _
    rw [List.length_map, List.length_range]
    exact Nat.le_refl _
theorem si_seq (he : SimE K W te e) : SimI K W (iSeq K te) (iSq e) := fun σ H ρ h G μ rel P => by
  unfold iSq
  have A := he σ H ρ h G μ rel
  cases ea : e ρ h with
  | bad => trivial
  | exc z h1 =>
    rw [ea] at A
    exact A _
  | ok d h1 =>
    rw [ea] at A
    cases d with
    | tup l =>
      intro k
      refine A _ fun v H1 G1 μ1 r1 x1 rv => ?_
      obtain ⟨pa, vs, e1, e2, e3⟩ := rv
      exact ⟨pa, e1, .inr ⟨⟨vs, same_sqT r1.hp.ex e2⟩, k _ H1 G1 μ1 r1 x1 (walks_tup e2 e3)⟩⟩
    | lst l =>
      intro k
      refine A _ fun v H1 G1 μ1 r1 x1 rv => ?_
      obtain ⟨pa, vs, e1, e2, e3⟩ := rv
      exact ⟨pa, e1, .inl ⟨⟨vs, SqL.of (r1.hp.ex _ _ e2)⟩, k _ H1 G1 μ1 r1 x1 (walks_lst (SqL.of e2) e3)⟩⟩
    | lstR l =>
      intro k
      refine A _ fun v H1 G1 μ1 r1 x1 rv => ?_
      obtain ⟨pa, vs, e1, e2, e3⟩ := rv
      exact ⟨pa, e1, .inl ⟨⟨vs, r1.hp.ex.seq e2⟩, k _ H1 G1 μ1 r1 x1 (walks_lst e2 e3)⟩⟩
    | _ => trivial
theorem si_r1 (ha : SimA K W ta a) : SimI K W (iRng1 ta) (iR1 a) := fun σ H ρ h G μ rel P => by
  unfold iR1
  have A := ha σ H ρ h G μ rel
  cases ea : a ρ h with
  | bad => trivial
  | exc z h1 =>
    rw [ea] at A
    exact A _
  | ok ds h1 =>
    rw [ea] at A
    match ds with
    | [] => trivial
    | d :: _ :: _ => cases d <;> trivial
    | [d] =>
      cases d with
      | int j =>
        dsimp only
        by_cases hj : -(2 ^ 62) ≤ j ∧ j < 2 ^ 62
        · rw [if_pos hj]
          intro k
          refine A _ fun vs H1 G1 μ1 r1 x1 rs => ?_
          obtain ⟨v, ev, rv⟩ := one_inv rs
          have rv' : v = .int j := rv
          subst ev rv'
          refine ⟨j, rfl, hj.1, hj.2, k _ H1 G1 μ1 r1 x1 ?_⟩
          have w := walks_rng (K := K) (lo := 0) (n := j.toNat) (G := G1) (μ := μ1)
          have e0 : ((List.range j.toNat).map fun (k : Nat) => AV.int (0 + (k : Int))) = (List.range j.toNat).map fun (k : Nat) => AV.int (k : Int) := by
            congr 1
            funext q
            rw [Int.zero_add]
          rw [e0] at w
          exact w
        · rw [if_neg hj]
          trivial
      | _ => trivial
theorem si_r2 (ha : SimA K W ta a) : SimI K W (iRng2 ta) (iR2 a) := fun σ H ρ h G μ rel P => by
  unfold iR2
  have A := ha σ H ρ h G μ rel
  cases ea : a ρ h with
  | bad => trivial
  | exc z h1 =>
    rw [ea] at A
    exact A _
  | ok ds h1 =>
    rw [ea] at A
    match ds with
    | [] => trivial
    | [d] => cases d <;> trivial
    | d :: d2 :: _ :: _ => cases d <;> (try trivial) <;> cases d2 <;> trivial
    | [d, d2] =>
      cases d with
      | int i =>
        cases d2 with
        | int j =>
          dsimp only
          by_cases hj : -(2 ^ 62) ≤ i ∧ i < 2 ^ 62 ∧ -(2 ^ 62) ≤ j ∧ j < 2 ^ 62
          · rw [if_pos hj]
            intro k
            refine A _ fun vs H1 G1 μ1 r1 x1 rs => ?_
            obtain ⟨v, u, ev, rv, ru⟩ := two_inv rs
            have rv' : v = .int i := rv
            have ru' : u = .int j := ru
            subst ev rv' ru'
            exact ⟨i, j, rfl, hj, k _ H1 G1 μ1 r1 x1 walks_rng⟩
          · rw [if_neg hj]
            trivial
        | _ => trivial
      | _ => trivial
end

/-! ### for -/
def forL (g : MG) (b : MS) : List AV → Env2 → AHeap → RetS
  | [], ρ, h => .ok .nx ρ h
  | x :: l, ρ, h => match g x ρ h with
    | .ok .nx ρ1 h1 => (match b ρ1 h1 with
      | .ok .nx ρ2 h2 => forL g b l ρ2 h2
      | .ok .ct ρ2 h2 => forL g b l ρ2 h2
      | .ok .bk ρ2 h2 => .ok .nx ρ2 h2
      | r => r)
    | _ => .bad
def mFor (it : MI) (g : MG) (b : MS) : MS := fun ρ h => match it ρ h with
  | .bad => .bad
  | .exc x h1 => .exc x ρ h1
  | .ok l h1 => forL g b l ρ h1
section
variable {K : PySem.W.Frag} {W : WX2} {wi : TI} {it : MI} {g : TG} {mg : MG} {tb : TS} {b : MS}
theorem ss_for (hi : SimI K W wi it) (hg : SimG K W g mg) (hb : SimS K W tb b) : SimS K W (tFor wi g tb) (mFor it mg b) := SimS.by fun σ H ρ h G μ rel D => by
  unfold mFor
  have A := hi σ H ρ h G μ rel
  cases ea : it ρ h with
  | bad => exact fun k => k.elim
  | exc z h1 =>
    rw [ea] at A
    intro k
    exact A _ fun d H' G' μ' r1 x1 q => k d σ H' G' μ' r1 x1 q
  | ok l h1 =>
    rw [ea] at A
    dsimp only
    intro k
    refine A _ fun J H1 G1 μ1 r1 x1 wk => ?_
    generalize hr : forL mg b l ρ h1 = r at k
    refine ⟨fun i m σ' H' => m = l.length - i ∧ i ≤ l.length ∧ ∃ ρ2 h2 G2 μ2, Rel K σ' H' ρ2 h2 G2 μ2 ∧ Ext G1 μ1 G2 μ2 ∧ forL mg b (l.drop i) ρ2 h2 = r, ⟨_, rfl, Nat.zero_le _, ρ, h1, G1, μ1, r1, Ext.refl _ _, hr⟩, ?_⟩
    rintro i m σ2 H2 ⟨rfl, hil, ρ2, h2, G2, μ2, r2, x2, e2⟩
    obtain ⟨w1, w2⟩ := wk H2 h2 G2 μ2 r2.hp x2
    by_cases hlt : i < l.length
    · right
      have hx : l[i]? = some l[i] := List.getElem?_eq_getElem hlt
      obtain ⟨go, yl⟩ := w1 i _ hx
      refine ⟨go, fun σ' H' => i + 1 ≤ l.length ∧ ∃ ρ3 h3 G3 μ3, Rel K σ' H' ρ3 h3 G3 μ3 ∧ Ext G1 μ1 G3 μ3 ∧ forL mg b (l.drop (i + 1)) ρ3 h3 = r, fun σ' H' n => ⟨l.length - (i + 1), by omega, rfl, n⟩, fun v H3 y => ?_⟩
      obtain ⟨G3, r3, x3, rv⟩ := yl v H3 y
      have r3' : Rel K σ2 H3 ρ2 h2 G3 μ2 := ⟨r3, r2.sl.mono x3⟩
      rw [List.drop_eq_getElem_cons hlt] at e2
      have B := hg σ2 H3 ρ2 h2 G3 μ2 r3' l[i] v rv
      have e3 : (match mg l[i] ρ2 h2 with
        | .ok .nx ρ1 h1 => (match b ρ1 h1 with
          | .ok .nx ρ2 h2 => forL mg b (l.drop (i + 1)) ρ2 h2
          | .ok .ct ρ2 h2 => forL mg b (l.drop (i + 1)) ρ2 h2
          | .ok .bk ρ2 h2 => .ok .nx ρ2 h2
          | r => r)
        | _ => .bad) = r := e2
      cases eg : mg l[i] ρ2 h2 with
      | bad =>
        rw [eg] at e3
        rw [← e3] at k
        exact k.elim
      | exc z ρ4 h4 =>
        rw [eg] at e3
        rw [← e3] at k
        exact k.elim
      | ok f ρ4 h4 =>
        rw [eg] at B e3
        cases f with
        | nx =>
          dsimp only at e3
          refine B _ fun σ4 H4 G4 μ4 r4 x4 => ?_
          have xx : Ext G1 μ1 G4 μ4 := (x2.trans x3).trans x4
          refine hb.go r4 _ ?_
          cases eb : b ρ4 h4 with
          | bad =>
            rw [eb] at e3
            rw [← e3] at k
            exact k.elim
          | exc z ρ5 h5 =>
            rw [eb] at e3
            rw [← e3] at k
            exact k.mono (x1.trans xx)
          | ok f5 ρ5 h5 =>
            rw [eb] at e3
            cases f5 with
            | nx => exact fun σ5 H5 G5 μ5 r5 x5 => ⟨hlt, ρ5, h5, G5, μ5, r5, xx.trans x5, e3⟩
            | ct => exact fun σ5 H5 G5 μ5 r5 x5 => ⟨hlt, ρ5, h5, G5, μ5, r5, xx.trans x5, e3⟩
            | bk =>
              dsimp only at e3
              rw [← e3] at k
              exact fun σ5 H5 G5 μ5 r5 x5 => k σ5 H5 G5 μ5 r5 ((x1.trans xx).trans x5)
            | rt d =>
              dsimp only at e3
              rw [← e3] at k
              exact fun σ5 H5 G5 μ5 r5 x5 => k σ5 H5 G5 μ5 r5 ((x1.trans xx).trans x5)
        | _ =>
          rw [← e3] at k
          exact k.elim
    · left
      have hi' : i = l.length := by omega
      subst hi'
      rw [List.drop_length] at e2
      have e3 : RetS.ok .nx ρ2 h2 = r := e2
      rw [← e3] at k
      exact ⟨w2, k σ2 H2 G2 μ2 r2 (x1.trans x2)⟩
end

/-! ### while -/
def whileF (c : MT) (b : MS) : Nat → Env2 → AHeap → Option RetS
  | 0, _, _ => none
  | n + 1, ρ, h => match c ρ h with
    | .bad => some .bad
    | .exc x h1 => some (.exc x ρ h1)
    | .ok false h1 => some (.ok .nx ρ h1)
    | .ok true h1 => (match b ρ h1 with
      | .ok .nx ρ2 h2 => whileF c b n ρ2 h2
      | .ok .ct ρ2 h2 => whileF c b n ρ2 h2
      | .ok .bk ρ2 h2 => some (.ok .nx ρ2 h2)
      | r => some r)
theorem whileF_more (c : MT) (b : MS) : ∀ (n : Nat) (ρ : Env2) (h : AHeap) (r : RetS), whileF c b n ρ h = some r → whileF c b (n + 1) ρ h = some r
  | 0, _, _, _, e => by cases e
  | n + 1, ρ, h, r, e => by
    unfold whileF at e ⊢
    cases ec : c ρ h with
    | bad =>
      rw [ec] at e
      exact e
    | exc x h1 =>
      rw [ec] at e
      exact e
    | ok d h1 =>
      rw [ec] at e
      cases d with
      | false => exact e
      | true =>
        dsimp only at e ⊢
        cases eb : b ρ h1 with
        | bad =>
          rw [eb] at e
          exact e
        | exc x ρ2 h2 =>
          rw [eb] at e
          exact e
        | ok f ρ2 h2 =>
          rw [eb] at e
          cases f with
          | nx => exact whileF_more c b n ρ2 h2 r e
          | ct => exact whileF_more c b n ρ2 h2 r e
          | bk => exact e
          | rt d => exact e
theorem whileF_add (c : MT) (b : MS) {n : Nat} {ρ : Env2} {h : AHeap} {r : RetS} (e : whileF c b n ρ h = some r) : ∀ k, whileF c b (n + k) ρ h = some r
  | 0 => e
  | k + 1 => whileF_more c b (n + k) ρ h r (whileF_add c b e k)
open Classical in
noncomputable def mWhile (c : MT) (b : MS) : MS := fun ρ h => if e : ∃ r n, whileF c b n ρ h = some r then e.choose else .bad
theorem mWhile_of {c : MT} {b : MS} {n : Nat} {ρ : Env2} {h : AHeap} {r : RetS} (e : whileF c b n ρ h = some r) : mWhile c b ρ h = r := by
  have q : ∃ r n, whileF c b n ρ h = some r := ⟨r, n, e⟩
  unfold mWhile
  rw [dif_pos q]
  obtain ⟨m, hm⟩ := q.choose_spec
  have h1 := whileF_add c b e m
  have h2 := whileF_add c b hm n
  rw [Nat.add_comm] at h2
  rw [h1] at h2
  exact (Option.some.inj h2).symm
section
variable {K : PySem.W.Frag} {W : WX2} {tc : TT} {c : MT} {tb : TS} {b : MS}
theorem ss_while (hc : SimT K W tc c) (hb : SimS K W tb b) : SimS K W (tWhile tc tb) (mWhile c b) := SimS.by fun σ H ρ h G μ rel D k => by
  unfold mWhile at k
  by_cases q : ∃ r n, whileF c b n ρ h = some r
  · rw [dif_pos q] at k
    obtain ⟨n, hn⟩ := q.choose_spec
    generalize q.choose = r at k hn
    refine ⟨fun m σ' H' => ∃ ρ2 h2 G2 μ2, Rel K σ' H' ρ2 h2 G2 μ2 ∧ Ext G μ G2 μ2 ∧ whileF c b m ρ2 h2 = some r, ⟨n, ρ, h, G, μ, rel, Ext.refl _ _, hn⟩, ?_⟩
    rintro m σ2 H2 ⟨ρ2, h2, G2, μ2, r2, x2, e2⟩
    cases m with
    | zero => cases e2
    | succ m =>
      unfold whileF at e2
      have A := hc σ2 H2 ρ2 h2 G2 μ2 r2
      cases ec : c ρ2 h2 with
      | bad =>
        rw [ec] at e2
        cases e2
        exact k.elim
      | exc z h3 =>
        rw [ec] at e2 A
        cases e2
        exact A _ fun d H' G' μ' r1 x1 q => k d σ2 H' G' μ' r1 (x2.trans x1) q
      | ok d h3 =>
        rw [ec] at e2 A
        cases d with
        | false =>
          cases e2
          refine A _ fun H3 G3 μ3 r3 x3 => ?_
          rw [if_neg Bool.false_ne_true]
          exact k σ2 H3 G3 μ3 r3 (x2.trans x3)
        | true =>
          dsimp only at e2
          refine A _ fun H3 G3 μ3 r3 x3 => ?_
          rw [if_pos rfl]
          refine ⟨fun σ' H' => ∃ ρ2 h2 G2 μ2, Rel K σ' H' ρ2 h2 G2 μ2 ∧ Ext G μ G2 μ2 ∧ whileF c b m ρ2 h2 = some r, fun σ' H' n => ⟨m, Nat.lt_succ_self _, n⟩, ?_⟩
          have xx := x2.trans x3
          refine hb.go r3 _ ?_
          cases eb : b ρ2 h3 with
          | bad =>
            rw [eb] at e2
            cases e2
            exact k.elim
          | exc z ρ5 h5 =>
            rw [eb] at e2
            cases e2
            exact k.mono xx
          | ok f5 ρ5 h5 =>
            rw [eb] at e2
            cases f5 with
            | nx => exact fun σ5 H5 G5 μ5 r5 x5 => ⟨ρ5, h5, G5, μ5, r5, xx.trans x5, e2⟩
            | ct => exact fun σ5 H5 G5 μ5 r5 x5 => ⟨ρ5, h5, G5, μ5, r5, xx.trans x5, e2⟩
            | bk =>
              cases e2
              exact fun σ5 H5 G5 μ5 r5 x5 => k σ5 H5 G5 μ5 r5 (xx.trans x5)
            | rt d =>
              cases e2
              exact fun σ5 H5 G5 μ5 r5 x5 => k σ5 H5 G5 μ5 r5 (xx.trans x5)
  · rw [dif_neg q] at k
    exact k.elim
end
end Mi

set_option maxRecDepth 100000
set_option maxHeartbeats 4000000
/-! Comprehensions, the rules of statements. -/
namespace Mi
open PySem PySem.Spec L2

/-! ### own names of a block -/
def wipeA (ρ : Env2) : List Nat → Env2
  | [] => ρ
  | v :: vs => (wipeA ρ vs).set v none
theorem wipe_rel {K : PySem.W.Frag} {σ : L2.St} {ρ : Env2} {G : Hp} {μ : List Addr} (h : RelS K σ ρ G μ) : ∀ vs : List Nat, RelS K (wipe σ vs) (wipeA ρ vs) G μ
  | [] => h
  | _ :: vs => (wipe_rel h vs).unset
theorem wipe_set {σ : L2.St} {j : Nat} {x : Option V} : ∀ {vs : List Nat}, j ∈ vs → wipe (σ.set j x) vs = wipe σ vs
  | v :: vs, h => by
    show (wipe (σ.set j x) vs).set v none = (wipe σ vs).set v none
    by_cases hj : j ∈ vs
    · rw [wipe_set hj]
    · have e : v = j := by
        rcases List.mem_cons.mp h with z | z
        · exact z.symm
        · exact absurd z hj
      subst e
      have out : ∀ (vs : List Nat), v ∉ vs → ∀ y : Option V, wipe (σ.set v y) vs = (wipe σ vs).set v y := by
        intro vs
        induction vs with
        | nil => intro _ y; rfl
        | cons u us ih =>
          intro hn y
          show (wipe (σ.set v y) us).set u none = ((wipe σ us).set u none).set v y
          rw [ih (fun z => hn (List.mem_cons_of_mem _ z)) y]
          exact List.set_comm _ _ (fun z => hn (by rw [z]; exact List.mem_cons_self))
      rw [out vs hj x, List.set_set]
theorem wipe_wipe {σ : L2.St} : ∀ vs us : List Nat, (∀ v ∈ us, v ∈ vs) → wipe (wipe σ us) vs = wipe σ vs
  | vs, [], _ => rfl
  | vs, u :: us, h => by
    show wipe ((wipe σ us).set u none) vs = wipe σ vs
    rw [wipe_set (h u List.mem_cons_self)]
    exact wipe_wipe vs us fun v hv => h v (List.mem_cons_of_mem _ hv)
def SimGo (K : PySem.W.Frag) (vs : List Nat) (t : TG) (m : MG) : Prop := ∀ σ H ρ h G μ, Rel K σ H ρ h G μ → ∀ d v, R K μ G d v → ∀ Q : L2.St → Hp → Prop, match m d ρ h with
  | .ok .nx ρ' h' => (∀ σ' H' G' μ', Rel K σ' H' ρ' h' G' μ' → Ext G μ G' μ' → wipe σ' vs = wipe σ vs → Q σ' H') → t v σ H Q
  | _ => True
def SimGos (K : PySem.W.Frag) (vs : List Nat) (t : TGs) (m : MGs) : Prop := ∀ σ H ρ h G μ, Rel K σ H ρ h G μ → ∀ l ws, RL K μ G l ws → ∀ Q : L2.St → Hp → Prop, match m l ρ h with
  | .ok .nx ρ' h' => (∀ σ' H' G' μ', Rel K σ' H' ρ' h' G' μ' → Ext G μ G' μ' → wipe σ' vs = wipe σ vs → Q σ' H') → t ws σ H Q
  | _ => True
section
variable {K : PySem.W.Frag} {vs : List Nat} {g : TG} {k' : MG}
theorem sgo_nm {i : Nat} (hi : i ∈ vs) : SimGo K vs (gName i) (gNm i) := fun σ H ρ h G μ rel d v r Q k => k _ H G μ ⟨rel.hp, rel.sl.set r⟩ (Ext.refl _ _) (wipe_set hi)
theorem sgos_nil : SimGos K vs gNil gsNil := fun σ H ρ h G μ rel l ws r Q => by
  cases l with
  | nil =>
    intro k
    exact ⟨r, k σ H G μ rel (Ext.refl _ _) rfl⟩
  | cons x l => trivial
theorem sgos_cons {tr : TGs} {mr : MGs} (h1 : SimGo K vs g k') (h2 : SimGos K vs tr mr) : SimGos K vs (gCons g tr) (gsCons k' mr) := fun σ H ρ h G μ rel l ws r Q => by
  cases l with
  | nil => trivial
  | cons x l =>
    obtain ⟨v, us, ev, rv, rs⟩ := r.inv
    show (match (match k' x ρ h with
      | .ok .nx ρ1 h1 => mr l ρ1 h1
      | _ => .bad) with
      | .ok .nx ρ' h' => (∀ σ' H' G' μ', Rel K σ' H' ρ' h' G' μ' → Ext G μ G' μ' → wipe σ' vs = wipe σ vs → Q σ' H') → gCons g tr ws σ H Q
      | _ => True)
    have A := h1 σ H ρ h G μ rel x v rv (fun σ1 H1 => tr us σ1 H1 Q)
    cases ea : k' x ρ h with
    | bad => trivial
    | exc z ρ1 h1 => trivial
    | ok f ρ1 h1 =>
      rw [ea] at A
      cases f with
      | nx =>
        dsimp only
        cases eb : mr l ρ1 h1 with
        | bad => trivial
        | exc z ρ2 h3 => trivial
        | ok f2 ρ2 h3 =>
          cases f2 with
          | nx =>
            intro k
            refine ⟨v, us, ev, A fun σ1 H1 G1 μ1 r1 x1 w1 => ?_⟩
            have B := h2 σ1 H1 ρ1 h1 G1 μ1 r1 l us (RL.mono x1 rs) Q
            rw [eb] at B
            exact B fun σ2 H2 G2 μ2 r2 x2 w2 => k σ2 H2 G2 μ2 r2 (x1.trans x2) (w2.trans w1)
          | _ => trivial
      | _ => trivial
theorem sgo_tp {n : Nat} {tr : TGs} {mr : MGs} (h : SimGos K vs tr mr) : SimGo K vs (gTup K n tr) (gTp n mr) := fun σ H ρ hh G μ rel d v r Q => by
  cases d with
  | tup l =>
    show (match (if l.length = n then mr l ρ hh else .bad) with
      | .ok .nx ρ' h' => (∀ σ' H' G' μ', Rel K σ' H' ρ' h' G' μ' → Ext G μ G' μ' → wipe σ' vs = wipe σ vs → Q σ' H') → gTup K n tr v σ H Q
      | _ => True)
    by_cases hn : l.length = n
    · rw [if_pos hn]
      obtain ⟨a, ws, ea, sa, ra⟩ := r
      have A := h σ H ρ hh G μ rel l ws ra Q
      cases eb : mr l ρ hh with
      | bad => trivial
      | exc z ρ2 h3 => trivial
      | ok f2 ρ2 h3 =>
        rw [eb] at A
        cases f2 with
        | nx =>
          intro k
          exact ⟨a, ws, ea, same_sqT rel.hp.ex sa, by rw [ra.length]; exact hn, A k⟩
        | _ => trivial
    · rw [if_neg hn]
      trivial
  | _ => trivial
end
def cGo (K : PySem.W.Frag) (vs : List Nat) (m : MG) : TG := fun v σ H Q => ∃ ρ h G μ d, Rel K σ H ρ h G μ ∧ R K μ G d v ∧ match m d ρ h with
  | .ok .nx ρ' h' => ∀ σ' H' G' μ', Rel K σ' H' ρ' h' G' μ' → Ext G μ G' μ' → wipe σ' vs = wipe σ vs → Q σ' H'
  | _ => False
theorem sGo {K : PySem.W.Frag} {vs : List Nat} (m : MG) : SimGo K vs (cGo K vs m) m := fun σ H ρ h G μ rel d v r Q => by
  cases e : m d ρ h with
  | bad => trivial
  | exc x ρ' h' => trivial
  | ok f ρ' h' =>
    cases f with
    | nx =>
      intro k
      exact ⟨ρ, h, G, μ, d, rel, r, by rw [e]; exact k⟩
    | _ => trivial
structure PGo (X : Cx) (vs : List Nat) (e : Expr) (m : MG) : Prop where
  p : PG X e (cGo X.K vs m)
theorem PGo.of {X : Cx} {vs : List Nat} {e : Expr} {t : TG} {m : MG} (p : PG X e t) (s : SimGo X.K vs t m) : PGo X vs e m := ⟨⟨fun pins s' σ H v u Q I r c => p.run pins s' σ H v u Q I r (by
  obtain ⟨ρ, h, G, μ, d, rel, rr, k⟩ := c
  have z := s σ H ρ h G μ rel d v rr Q
  revert k z
  cases m d ρ h with
  | bad => exact fun k => k.elim
  | exc x ρ' h' => exact fun k => k.elim
  | ok f ρ' h' =>
    cases f with
    | nx => exact fun k z => z k
    | _ => exact fun k => k.elim)⟩⟩

/-! ### comprehensions -/
/-- the cell n holds what is made so far -/
def lcL (n : Nat) (g : MG) (tt : MT) (e : ME) : List AV → Env2 → AHeap → List AV → Ret (List AV)
  | [], _, h, acc => .ok acc h
  | x :: l, ρ, h, acc => match g x ρ h with
    | .ok .nx ρ1 h1 => (match tt ρ1 h1 with
      | .ok false h2 => (match h2[n]? with
        | some (some (.lst a)) => lcL n g tt e l ρ h2 a
        | _ => .bad)
      | .ok true h2 => (match e ρ1 h2 with
        | .ok y h3 => (match h3[n]? with
          | some (some (.lst a)) => if a.length < sizeLine then lcL n g tt e l ρ (h3.set n (some (.lst (a ++ [y])))) (a ++ [y]) else .bad
          | _ => .bad)
        | _ => .bad)
      | _ => .bad)
    | _ => .bad
open Classical in
noncomputable def mLc (own : List Nat) (it : MI) (g : MG) (tt : MT) (e : ME) : ME := fun ρ h => match it ρ h with
  | .bad => .bad
  | .exc x h1 => .exc x h1
  | .ok l h1 => match lcL h1.length g tt e l (wipeA ρ own) (h1 ++ [some (.lst [])]) [] with
    | .ok ys h2 => if clsdL ys = true ∧ DropOk h1 h2 ∧ h2[h1.length]? = some (some (.lst ys)) then .ok (.lst ys) (h2.take h1.length) else .bad
    | _ => .bad
/-- the same, the list stays a cell -/
noncomputable def mLcC (own : List Nat) (it : MI) (g : MG) (tt : MT) (e : ME) : ME := fun ρ h => match mLc own it g tt e ρ h with
  | .ok (.lst ys) h1 => .ok (.ref h1.length) (h1 ++ [some (.lst ys)])
  | _ => .bad
def mYes : MT := fun _ h => .ok true h
section
variable {K : PySem.W.Frag} {W : WX2} {wi : TI} {it : MI} {g : TG} {mg : MG} {tt : TT} {mt : MT} {te : TE} {me : ME} {own : List Nat}
theorem lc_run (hg : SimGo K own g mg) (ht : SimT K W0 tt mt) (he : SimE K W0 te me) {J : It} {l : List AV} {σ : L2.St} {ρ : Env2} {H1 : Hp} {h1 : AHeap} {G1 : Hp} {μ1 : List Addr} {ys : List AV} {hz : AHeap} {Q : VK} (r1 : Rel K σ H1 ρ h1 G1 μ1) (wk : Walks K J l G1 μ1)
    (hl : lcL h1.length mg mt me l (wipeA ρ own) (h1 ++ [some (.lst [])]) [] = .ok ys hz) {D : Addr} (hD : H1 D = none)
    (k : ∀ H2 G2 μ2, RelH K H2 hz G2 μ2 → Ext G1 (μ1 ++ [D]) G2 μ2 → Q (.ref D) H2) :
    ∃ Wd : Nat → Nat → Hp → Prop, (∃ m, Wd 0 m (upd H1 D (.lst []))) ∧ ∀ i m H, Wd i m H → (J.stop i H ∧ Q (.ref D) H) ∨ (J.go i H ∧ ∃ Nx : Hp → Prop, (∀ H', Nx H' → ∃ m', m' < m ∧ Wd (i + 1) m' H') ∧ ∀ x H', J.yld i H x H' → g x (wipe σ own) H' fun σ2 H2 => wipe σ2 own = wipe σ own ∧ tt σ2 H2 fun b H3 =>
      if b = true then te σ2 H3 fun y H4 => ∃ acc, H4 D = some (.lst acc) ∧ acc.length < sizeLine ∧ Nx (upd H4 D (.lst (acc ++ [y]))) else Nx H3) := by
  have x0 : Ext G1 μ1 G1 (μ1 ++ [D]) := ⟨Same.refl _, List.prefix_append _ _⟩
  obtain ⟨g0, _⟩ := r1.hp.cell (o := .lst []) (mo := .lst []) hD ⟨[], rfl, RL.nil⟩
  have ix : (μ1 ++ [D])[h1.length]? = some D := by
    rw [← r1.hp.len, List.getElem?_append_right (Nat.le_refl _), Nat.sub_self]
    rfl
  refine ⟨fun i m H => m = l.length - i ∧ i ≤ l.length ∧ ∃ h2 G2 μ2 acc, RelH K H h2 G2 μ2 ∧ Ext G1 (μ1 ++ [D]) G2 μ2 ∧ lcL h1.length mg mt me (l.drop i) (wipeA ρ own) h2 acc = .ok ys hz, ⟨_, rfl, Nat.zero_le _, _, G1, _, [], g0, Ext.refl _ _, hl⟩, ?_⟩
  rintro i m H ⟨rfl, hil, h2, G2, μ2, acc, r2, x2, e2⟩
  obtain ⟨w1, w2⟩ := wk H h2 G2 μ2 r2 (x0.trans x2)
  by_cases hlt : i < l.length
  · right
    have hx : l[i]? = some l[i] := List.getElem?_eq_getElem hlt
    obtain ⟨go, yl⟩ := w1 i _ hx
    refine ⟨go, fun H' => i + 1 ≤ l.length ∧ ∃ h2 G2 μ2 acc, RelH K H' h2 G2 μ2 ∧ Ext G1 (μ1 ++ [D]) G2 μ2 ∧ lcL h1.length mg mt me (l.drop (i + 1)) (wipeA ρ own) h2 acc = .ok ys hz, fun H' n => ⟨l.length - (i + 1), by omega, rfl, n⟩, fun v H3 y => ?_⟩
    obtain ⟨G3, r3, x3, rv⟩ := yl v H3 y
    have rS : RelS K (wipe σ own) (wipeA ρ own) G3 μ2 := wipe_rel (r1.sl.mono ((x0.trans x2).trans x3)) own
    rw [List.drop_eq_getElem_cons hlt] at e2
    have B := hg (wipe σ own) H3 (wipeA ρ own) h2 G3 μ2 ⟨r3, rS⟩ l[i] v rv
    have e3 : (match mg l[i] (wipeA ρ own) h2 with
      | .ok .nx ρ1 h3 => (match mt ρ1 h3 with
        | .ok false h4 => (match h4[h1.length]? with
          | some (some (.lst a)) => lcL h1.length mg mt me (l.drop (i + 1)) (wipeA ρ own) h4 a
          | _ => .bad)
        | .ok true h4 => (match me ρ1 h4 with
          | .ok y h5 => (match h5[h1.length]? with
            | some (some (.lst a)) => if a.length < sizeLine then lcL h1.length mg mt me (l.drop (i + 1)) (wipeA ρ own) (h5.set h1.length (some (.lst (a ++ [y])))) (a ++ [y]) else .bad
            | _ => .bad)
          | _ => .bad)
        | _ => .bad)
      | _ => .bad) = .ok ys hz := e2
    cases eg : mg l[i] (wipeA ρ own) h2 with
    | bad =>
      rw [eg] at e3
      cases e3
    | exc z ρ4 h4 =>
      rw [eg] at e3
      cases e3
    | ok f ρ4 h4 =>
      rw [eg] at B e3
      cases f with
      | nx =>
        dsimp only at e3
        refine B _ fun σ4 H4 G4 μ4 r4 x4 w4 => ⟨?_, ?_⟩
        · rw [w4]
          exact wipe_wipe own own fun _ z => z
        · have C := ht σ4 H4 ρ4 h4 G4 μ4 r4
          cases et : mt ρ4 h4 with
          | bad =>
            rw [et] at e3
            cases e3
          | exc z h5 =>
            rw [et] at e3
            cases e3
          | ok b h5 =>
            rw [et] at C e3
            refine C _ fun H5 G5 μ5 r5 x5 => ?_
            have xx : Ext G1 (μ1 ++ [D]) G5 μ5 := ((x2.trans x3).trans x4).trans x5
            cases b with
            | false =>
              rw [if_neg Bool.false_ne_true]
              dsimp only at e3
              cases en : h5[h1.length]? with
              | none =>
                rw [en] at e3
                cases e3
              | some oo =>
                rw [en] at e3
                cases oo with
                | none => cases e3
                | some mo =>
                  cases mo with
                  | ins _ _ _ => cases e3
                  | lst a => exact ⟨hlt, h5, G5, μ5, a, r5.hp, xx, e3⟩
            | true =>
              rw [if_pos rfl]
              dsimp only at e3
              have E := he σ4 H5 ρ4 h5 G5 μ5 r5
              cases ee : me ρ4 h5 with
              | bad =>
                rw [ee] at e3
                cases e3
              | exc z h6 =>
                rw [ee] at e3
                cases e3
              | ok y h6 =>
                rw [ee] at E e3
                refine E _ fun w H6 G6 μ6 r6 x6 rw' => ?_
                dsimp only at e3
                cases en : h6[h1.length]? with
                | none =>
                  rw [en] at e3
                  cases e3
                | some oo =>
                  rw [en] at e3
                  cases oo with
                  | none => cases e3
                  | some mo =>
                    cases mo with
                    | ins _ _ _ => cases e3
                    | lst a =>
                      dsimp only at e3
                      by_cases hz' : a.length < sizeLine
                      · rw [if_pos hz'] at e3
                        have ix6 : μ6[h1.length]? = some D := pre_get (xx.trans x6).m ix
                        obtain ⟨pb, g1, g2, us, g3, g4⟩ := r6.hp.cont _ _ en
                        rw [ix6] at g1
                        cases g1
                        have hw : RM K μ6 G6 (.lst (a ++ [y])) (some (.lst (us ++ [w]))) := ⟨_, rfl, RL.app g4 (RL.cons rw' RL.nil)⟩
                        exact ⟨us, g3, by rw [g4.length]; exact hz', hlt, _, G6, μ6, _, r6.hp.write en ix6 hw, xx.trans x6, e3⟩
                      · rw [if_neg hz'] at e3
                        cases e3
      | _ => cases e3
  · left
    have hi' : i = l.length := by omega
    subst hi'
    rw [List.drop_length] at e2
    cases e2
    exact ⟨w2, k H G2 μ2 r2 x2⟩
theorem se_lc (hi : SimI K W wi it) (hg : SimGo K own g mg) (ht : SimT K W0 tt mt) (he : SimE K W0 te me) : SimE K W (tLc wi g tt te own) (mLc own it mg mt me) := fun σ H ρ h G μ rel Q => by
  unfold mLc
  have A := hi σ H ρ h G μ rel
  cases ea : it ρ h with
  | bad => trivial
  | exc z h1 =>
    rw [ea] at A
    exact A _
  | ok l h1 =>
    rw [ea] at A
    dsimp only
    cases el : lcL h1.length mg mt me l (wipeA ρ own) (h1 ++ [some (.lst [])]) [] with
    | bad => trivial
    | exc z h2 => trivial
    | ok ys h2 =>
      dsimp only
      by_cases hc : clsdL ys = true ∧ DropOk h1 h2 ∧ h2[h1.length]? = some (some (.lst ys))
      · rw [if_pos hc]
        intro k
        refine A _ fun J H1 G1 μ1 r1 x1 wk D hD => lc_run hg ht he r1 wk el hD fun H2 G2 μ2 r2 x2 => ?_
        have x0 : Ext G1 μ1 G1 (μ1 ++ [D]) := ⟨Same.refl _, List.prefix_append _ _⟩
        have ix : (μ1 ++ [D])[h1.length]? = some D := by
          rw [← r1.hp.len, List.getElem?_append_right (Nat.le_refl _), Nat.sub_self]
          rfl
        have ix2 := pre_get x2.m ix
        obtain ⟨pb, g1, g2, us, g3, g4⟩ := r2.cont _ _ hc.2.2
        rw [ix2] at g1
        cases g1
        have rH : RelH K H2 (h2.take h1.length) G2 μ1 := r1.hp.drop r2 (x0.trans x2) hc.2.1
        have x3 : Ext G2 μ1 (upd G2 D (.lst us)) μ1 := ⟨fun b u q => by rw [upd_ne (ne_of_none q g2)]; exact q, List.prefix_rfl⟩
        have rH' : RelH K H2 (h2.take h1.length) (upd G2 D (.lst us)) μ1 := by
          refine ⟨fun b u q => ?_, rH.len, fun i mo e => ?_, rH.inj⟩
          · by_cases hb : b = D
            · subst hb
              rw [upd_same] at q
              rw [g3]
              exact q
            · rw [upd_ne hb] at q
              exact rH.ex b u q
          · obtain ⟨b, f1, f2, f3⟩ := rH.cont i mo e
            have hi : i < h1.length := by
              have := (List.getElem?_eq_some_iff.mp e).1
              rw [List.length_take] at this
              omega
            have e' : h2[i]? = some (some mo) := by
              rw [List.getElem?_take_of_lt hi] at e
              exact e
            have hne : b ≠ D := fun z => by
              have := r2.inj i h1.length D mo _ e' hc.2.2 (by rw [← z]; exact pre_get (x0.trans x2).m f1) ix2
              omega
            exact ⟨b, f1, by rw [upd_ne hne]; exact f2, RM.mono x3 f3⟩
        refine k _ H2 _ μ1 ⟨rH', (r1.sl.mono ⟨(x0.trans x2).g, List.prefix_rfl⟩).mono x3⟩ ((x1.trans ⟨(x0.trans x2).g, List.prefix_rfl⟩).trans x3) ?_
        exact ⟨D, us, rfl, upd_same, RL.mono x3 (RL.any hc.1 g4)⟩
      · rw [if_neg hc]
        trivial
/-- a list that never changes, made a cell: not of use for a list that somebody else knows; here the list is new -/
theorem se_lcC (hi : SimI K W wi it) (hg : SimGo K own g mg) (ht : SimT K W0 tt mt) (he : SimE K W0 te me) : SimE K W (tLc wi g tt te own) (mLcC own it mg mt me) := fun σ H ρ h G μ rel Q => by
  unfold mLcC mLc
  have A := hi σ H ρ h G μ rel
  cases ea : it ρ h with
  | bad => trivial
  | exc z h1 => trivial
  | ok l h1 =>
    rw [ea] at A
    dsimp only
    cases el : lcL h1.length mg mt me l (wipeA ρ own) (h1 ++ [some (.lst [])]) [] with
    | bad => trivial
    | exc z h2 => trivial
    | ok ys h2 =>
      dsimp only
      by_cases hc : clsdL ys = true ∧ DropOk h1 h2 ∧ h2[h1.length]? = some (some (.lst ys))
      · rw [if_pos hc]
        dsimp only
        intro k
        refine A _ fun J H1 G1 μ1 r1 x1 wk D hD => lc_run hg ht he r1 wk el hD fun H2 G2 μ2 r2 x2 => ?_
        have x0 : Ext G1 μ1 G1 (μ1 ++ [D]) := ⟨Same.refl _, List.prefix_append _ _⟩
        have ix : (μ1 ++ [D])[h1.length]? = some D := by
          rw [← r1.hp.len, List.getElem?_append_right (Nat.le_refl _), Nat.sub_self]
          rfl
        have ix2 := pre_get x2.m ix
        have g0 := r2.cont _ _ hc.2.2
        obtain ⟨pb, g1, g2, us, g3, g4⟩ := g0
        rw [ix2] at g1
        cases g1
        have rH : RelH K H2 (h2.take h1.length) G2 μ1 := r1.hp.drop r2 (x0.trans x2) hc.2.1
        have hlen : (h2.take h1.length).length = h1.length := by
          rw [List.length_take]
          have := (List.getElem?_eq_some_iff.mp hc.2.2).1
          omega
        have x4 : Ext G2 μ1 G2 (μ1 ++ [D]) := ⟨Same.refl _, List.prefix_append _ _⟩
        have back : ∀ {i : Nat} {mo : MO}, (h2.take h1.length ++ [some (.lst ys)])[i]? = some (some mo) → h2[i]? = some (some mo) ∧ i ≤ h1.length := fun {i mo} e => by
          by_cases hi : i < h1.length
          · rw [List.getElem?_append_left (by rw [hlen]; exact hi), List.getElem?_take_of_lt hi] at e
            exact ⟨e, by omega⟩
          · have hl := (List.getElem?_eq_some_iff.mp e).1
            rw [List.length_append, hlen, List.length_singleton] at hl
            have hi' : i = h1.length := by omega
            subst hi'
            rw [List.getElem?_append_right (by rw [hlen]; exact Nat.le_refl _), hlen, Nat.sub_self] at e
            cases e
            exact ⟨hc.2.2, Nat.le_refl _⟩
        have pre : (μ1 ++ [D]) <+: μ2 := x2.m
        have lk : ∀ {i : Nat} {a : Addr}, (μ1 ++ [D])[i]? = some a → μ2[i]? = some a := fun {i a} e => pre_get pre e
        have rC : RelH K H2 (h2.take h1.length ++ [some (.lst ys)]) G2 (μ1 ++ [D]) := by
          refine ⟨r2.ex, by rw [List.length_append, List.length_append, hlen, r1.hp.len] <;> rfl, fun i mo e => ?_, fun i j a mo mo' e1 e2 e3 e4 => r2.inj i j a _ _ (back e1).1 (back e2).1 (lk e3) (lk e4)⟩
          by_cases hi : i < h1.length
          · rw [List.getElem?_append_left (by rw [hlen]; exact hi)] at e
            obtain ⟨b, f1, f2, f3⟩ := rH.cont i mo e
            exact ⟨b, pre_get x4.m f1, f2, RM.mono x4 f3⟩
          · have hi' : i = h1.length := by
              have := (back e).2
              omega
            subst hi'
            rw [List.getElem?_append_right (by rw [hlen]; exact Nat.le_refl _), hlen, Nat.sub_self] at e
            cases e
            exact ⟨D, ix, g2, us, g3, RL.any hc.1 g4⟩
        refine k _ H2 G2 (μ1 ++ [D]) ⟨rC, r1.sl.mono ⟨x2.g, List.prefix_append _ _⟩⟩ (x1.trans ⟨x2.g, List.prefix_append _ _⟩) ⟨D, ?_, rfl⟩
        rw [hlen]
        exact ix
      · rw [if_neg hc]
        trivial
end
end Mi

set_option maxRecDepth 100000
set_option maxHeartbeats 4000000
/-! The rules of statements, calls, loops. -/
namespace Mi
open PySem PySem.Spec L2

structure PIm (X : Cx) (W : WX2) (tg iter : Expr) (m : MI) : Prop where
  ex : ∃ wi, PI X tg iter wi ∧ SimI X.K W wi m
structure PTsm (X : Cx) (ifs : List Expr) (m : MT) : Prop where
  p : PTs X ifs (cT X.K W0 m)
theorem PTsm.of {X : Cx} {ifs : List Expr} {t : TT} {m : MT} (p : PTs X ifs t) (s : SimT X.K W0 t m) : PTsm X ifs m := ⟨⟨fun pins s' σ H Q I c => p.run pins s' σ H Q I (s.to σ H Q c)⟩⟩
theorem sim_yes {K : PySem.W.Frag} {W : WX2} : SimT K W tYes mYes := fun σ H ρ h G μ rel Q k => k H G μ rel (Ext.refl _ _)

section
variable {X : Cx} {W : WX2} {a b c e o i : Expr} {ma mb me mo mi : ME} {pos : Pos} {es : List Expr} {st : Stmt} {rest : List Stmt} {ms mr : MS} {mt : MT} {m : MA} {g : MG} {gs : MGs}
/-! blocks -/
theorem sm_nil : PSsm X W [] mNext := .of pss_nil ss_next
theorem sm_cons (h1 : PSm X W st ms) (h2 : PSsm X W rest mr) : PSsm X W (st :: rest) (mSeq ms mr) := by
  obtain ⟨t, p, s⟩ := h1.x
  obtain ⟨u, q, r⟩ := h2.x
  exact .of (pss_cons p q) (ss_seq s r)
theorem sm_one (h1 : PSm X W st ms) : PSsm X W [st] ms := by
  obtain ⟨t, p, s⟩ := h1.x
  exact .of (pss_one p) s
theorem sm_frz (j : Nat) {sts : List Stmt} (h : PSsm X W sts mr) : PSsm X W sts (mSeq (mFrz j) mr) := by
  obtain ⟨t, p, s⟩ := h.x
  exact .of p (ss_frz s)
theorem sm_never {sts : List Stmt} : PSsm X W sts mNever := .of (t := tNever) pss_never ss_never
theorem st_never : PSm X W st mNever := .of (t := tNever) ps_never ss_never
theorem st_pass : PSm X W (.Pass pos) mNext := .of ps_pass ss_next
theorem st_break : PSm X W (.Break pos) mBrk := .of ps_break ss_brk
theorem st_continue : PSm X W (.Continue pos) mCnt := .of ps_continue ss_cnt
theorem st_expr (he : PEm X W e me) (hs : swapsWith e none pos.line X.env = pure false := by rfl) : PSm X W (.Expr e pos) (mDrop me) := by
  obtain ⟨t, p, s⟩ := he.x
  exact .of (ps_expr p hs) (ss_drop s)
theorem st_ret (he : PEm X W e me) : PSm X W (.Return (some e) pos) (mRet me) := by
  obtain ⟨t, p, s⟩ := he.x
  exact .of (ps_ret p) (ss_ret s)
theorem st_retN : PSm X W (.Return none pos) mRetN := .of ps_retN ss_retN
theorem st_if {x y : List Stmt} {mx my : MS} (hc : PTm X W c mt) (ha : PSsm X W x mx) (hb : PSsm X W y my) : PSm X W (.If c x y pos) (mIfS mt mx my) := by
  obtain ⟨tc, pc, sc⟩ := hc.x
  obtain ⟨ta, pa, sa⟩ := ha.x
  obtain ⟨tb, pb, sb⟩ := hb.x
  exact .of (ps_if pc pa pb) (ss_if sc sa sb)
/-! targets -/
theorem gm_nm (j : Nat) {x : Str} (hN : X.N.Nodup) (hi : X.N[j]? = some x := by rfl) (hx : Loc X.env.scope x := by first | exact Or.inl rfl | exact Or.inr rfl) (hf : X.fn x = true ∨ X.env.scope.names.lookup x = some .local := by first | exact .inl rfl | exact .inr rfl | assumption) : PGm X (.Name x pos) (gNm j) :=
  .of (pg_name hN hi hx hf) (sg_nm (W := W0))
structure PGsm (X : Cx) (ts : List Expr) (m : MGs) : Prop where
  ex : ∃ t, PGs X ts t ∧ SimGs X.K t m
theorem gsm_nil : PGsm X [] gsNil := ⟨_, pgs_nil, sgs_nil⟩
theorem gsm_cons (h1 : PGm X e g) (h2 : PGsm X es gs) (hs : (assignEach (e :: es) X.env).map (·.2) = assign e X.env :: (assignEach es X.env).map (·.2) := by rfl) : PGsm X (e :: es) (gsCons g gs) := by
  obtain ⟨t, p, s⟩ := h1.x (W := W0)
  obtain ⟨u, q, r⟩ := h2.ex
  exact ⟨_, pgs_cons p q hs, sgs_cons s r⟩
theorem gm_tp {k : Nat} (n : Nat) (hc : X.calm = true) (h : PGsm X es gs) (hn : (assignEach es X.env).length = n := by rfl) (hst : (assignEach es X.env).findIdx? (·.1) = none := by rfl) : PGm X (.Tuple es k pos) (gTp n gs) := by
  obtain ⟨t, p, s⟩ := h.ex
  exact .of (pg_tup hc p hn hst) (sg_tp (W := W0) s)
/-! in a comprehension -/
theorem go_nm {vs : List Nat} (j : Nat) {x : Str} (hN : X.N.Nodup) (hv : j ∈ vs := by decide) (hi : X.N[j]? = some x := by rfl) (hx : Loc X.env.scope x := by first | exact Or.inl rfl | exact Or.inr rfl) (hf : X.fn x = true ∨ X.env.scope.names.lookup x = some .local := by first | exact .inl rfl | exact .inr rfl | assumption) : PGo X vs (.Name x pos) (gNm j) :=
  .of (pg_name hN hi hx hf) (sgo_nm hv)
structure PGos (X : Cx) (vs : List Nat) (ts : List Expr) (m : MGs) : Prop where
  p : PGs X ts (fun ws σ H Q => ∃ ρ h G μ l, Rel X.K σ H ρ h G μ ∧ RL X.K μ G l ws ∧ match m l ρ h with
    | .ok .nx ρ' h' => ∀ σ' H' G' μ', Rel X.K σ' H' ρ' h' G' μ' → Ext G μ G' μ' → wipe σ' vs = wipe σ vs → Q σ' H'
    | _ => False)
theorem PGos.of {vs : List Nat} {ts : List Expr} {t : TGs} {m : MGs} (p : PGs X ts t) (s : SimGos X.K vs t m) : PGos X vs ts m := ⟨⟨fun pins s' σ H ws us Q I r c => p.run pins s' σ H ws us Q I r (by
  obtain ⟨ρ, h, G, μ, l, rel, rr, k⟩ := c
  have z := s σ H ρ h G μ rel l ws rr Q
  revert k z
  cases m l ρ h with
  | bad => exact fun k => k.elim
  | exc x ρ' h' => exact fun k => k.elim
  | ok f ρ' h' =>
    cases f with
    | nx => exact fun k z => z k
    | _ => exact fun k => k.elim)⟩⟩
theorem PGos.x {vs : List Nat} {ts : List Expr} {m : MGs} (h : PGos X vs ts m) : ∃ t, PGs X ts t ∧ SimGos X.K vs t m := ⟨_, h.p, fun σ H ρ hh G μ rel l ws r Q => by
  cases e : m l ρ hh with
  | bad => trivial
  | exc x ρ' h' => trivial
  | ok f ρ' h' =>
    cases f with
    | nx =>
      intro k
      exact ⟨ρ, hh, G, μ, l, rel, r, by rw [e]; exact k⟩
    | _ => trivial⟩
theorem gos_nil {vs : List Nat} : PGos X vs [] gsNil := .of pgs_nil sgos_nil
theorem gos_cons {vs : List Nat} (h1 : PGo X vs e g) (h2 : PGos X vs es gs) (hs : (assignEach (e :: es) X.env).map (·.2) = assign e X.env :: (assignEach es X.env).map (·.2) := by rfl) : PGos X vs (e :: es) (gsCons g gs) := by
  obtain ⟨u, q, r⟩ := h2.x
  exact .of (pgs_cons h1.p q hs) (sgos_cons (sGo g) r)
theorem go_tp {vs : List Nat} {k : Nat} (n : Nat) (hc : X.calm = true) (h : PGos X vs es gs) (hn : (assignEach es X.env).length = n := by rfl) (hst : (assignEach es X.env).findIdx? (·.1) = none := by rfl) : PGo X vs (.Tuple es k pos) (gTp n gs) := by
  obtain ⟨t, p, s⟩ := h.x
  exact .of (pg_tup hc p hn hst) (sgo_tp s)
/-! stores -/
theorem st_set (j : Nat) {x : Str} {pos' : Pos} (hN : X.N.Nodup) (he : PEm X W e me) (hi : X.N[j]? = some x := by rfl) (hx : Loc X.env.scope x := by first | exact Or.inl rfl | exact Or.inr rfl) (hs : swapsWith e (some (.Name x pos')) pos.line X.env = pure false := by rfl)
    (hf : X.fn x = true ∨ X.env.scope.names.lookup x = some .local := by first | exact .inl rfl | exact .inr rfl | assumption) : PSm X W (.Assign [.Name x pos'] e pos) (mAsg me (gNm j)) := by
  obtain ⟨t, p, s⟩ := he.x
  exact .of (ps_set hN hi hx p hs hf) (ss_asg s (sg_nm (W := W)))
theorem st_asg {tg : Expr} (he : PEm X W e me) (hg : PGm X tg g) (hs : swapsWithSole [tg] e pos.line X.env = pure false := by rfl) (hw : swappedStores [tg] e X.env = pure none := by rfl)
    (h1 : (assignEach [tg] X.env).map (·.2) = [assign tg X.env] := by rfl) : PSm X W (.Assign [tg] e pos) (mAsg me g) := by
  obtain ⟨t, p, s⟩ := he.x
  obtain ⟨u, q, r⟩ := hg.x (W := W)
  exact .of (ps_asg p q hs hw h1) (ss_asg s r)
theorem st_par (j k : Nat) {x y : Str} {px py pt : Pos} {kt k2 pt2} (hc : X.calm = true) (hN : X.N.Nodup) (ha : PAm X W [a, b] m) (hi : X.N[j]? = some x := by rfl) (hj : X.N[k]? = some y := by rfl) (hij : j ≠ k := by decide)
    (hx : X.env.scope.names.lookup x = some .local := by rfl) (hy : X.env.scope.names.lookup y = some .local := by rfl)
    (hw : swappedStores [.Tuple [.Name x px, .Name y py] kt pt] (.Tuple [a, b] k2 pt2) X.env = pure (some [x, y]) := by rfl)
    (hs : swapsWithSole [.Tuple [.Name x px, .Name y py] kt pt] (.Tuple [a, b] k2 pt2) pos.line X.env = pure false := by rfl) :
    PSm X W (.Assign [.Tuple [.Name x px, .Name y py] kt pt] (.Tuple [a, b] k2 pt2) pos) (mPar j k m) := by
  obtain ⟨t, p, s⟩ := ha.x
  exact .of (ps_par hc hN hi hj hij hx hy p hw hs) (ss_par s)
theorem st_par3 (j k l : Nat) {x y z : Str} {px py pz pt : Pos} {kt k2 pt2} (hc : X.calm = true) (hN : X.N.Nodup) (ha : PAm X W [a, b, c] m) (hi : X.N[j]? = some x := by rfl) (hj : X.N[k]? = some y := by rfl) (hl : X.N[l]? = some z := by rfl)
    (hij : j ≠ k := by decide) (hil : j ≠ l := by decide) (hjl : k ≠ l := by decide)
    (hx : X.env.scope.names.lookup x = some .local := by rfl) (hy : X.env.scope.names.lookup y = some .local := by rfl) (hz : X.env.scope.names.lookup z = some .local := by rfl)
    (hw : swappedStores [.Tuple [.Name x px, .Name y py, .Name z pz] kt pt] (.Tuple [a, b, c] k2 pt2) X.env = pure (some [x, y, z]) := by rfl)
    (hs : swapsWithSole [.Tuple [.Name x px, .Name y py, .Name z pz] kt pt] (.Tuple [a, b, c] k2 pt2) pos.line X.env = pure false := by rfl) :
    PSm X W (.Assign [.Tuple [.Name x px, .Name y py, .Name z pz] kt pt] (.Tuple [a, b, c] k2 pt2) pos) (mPar3 j k l m) := by
  obtain ⟨t, p, s⟩ := ha.x
  exact .of (ps_par3 hc hN hi hj hl hij hil hjl hx hy hz p hw hs) (ss_par3 s)
theorem st_setIx {spos : Pos} (ho : PEm X W o mo) (hi : PEm X W i mi) (he : PEm X W e me)
    (ha : ∀ v, assign (.Subscript o i spos) X.env v = (do
      let ov ← holding [v] (eval o X.env)
      let iv ← holding [v, ov] (eval i X.env)
      standAt spos
      holding [v, ov, iv] (setItem ov iv v)
      release [v, ov, iv] []) := by intro _; rfl)
    (hs : swapsWithSole [.Subscript o i spos] e pos.line X.env = pure false := by rfl) (hw : swappedStores [.Subscript o i spos] e X.env = pure none := by rfl)
    (h1 : (assignEach [.Subscript o i spos] X.env).map (·.2) = [assign (.Subscript o i spos) X.env] := by rfl) : PSm X W (.Assign [.Subscript o i spos] e pos) (mSetIx mo mi me) := by
  obtain ⟨t, p, s⟩ := ho.x
  obtain ⟨u, q, r⟩ := hi.x
  obtain ⟨v, z, y⟩ := he.x
  exact .of (ps_asg z (pg_sub p q set_list ha) hs hw h1) (ss_setIx s r y)
theorem st_setAt {cs : List Str} {f : Str} {pos' : Pos} (hc : ∀ c ∈ cs, CA X.K c f) (ho : PEm X W o mo) (he : PEm X W e me) (hs : swapsWith e (some (.Attribute o f pos')) pos.line X.env = pure false := by rfl) : PSm X W (.Assign [.Attribute o f pos'] e pos) (mSetAt cs f mo me) := by
  obtain ⟨t, p, s⟩ := ho.x
  obtain ⟨v, z, y⟩ := he.x
  exact .of (ps_fld p z hs) (ss_setAt hc s y)
/-! attributes, calls -/
theorem em_at {cs : List Str} {f : Str} (hc : ∀ c ∈ cs, CA X.K c f) (ho : PEm X W o mo) (hb : attributeBase o f X.env (eval o X.env) = eval o X.env := by rfl) : PEm X W (.Attribute o f pos) (mAt cs f mo) := by
  obtain ⟨t, p, s⟩ := ho.x
  exact .of (pe_fld p hb) (se_at hc s)
theorem em_append {apos : Pos} (ho : PEm X W o mo) (he : PEm X W e me) (hbase : attributeBase o "append" X.env (eval o X.env) = eval o X.env := by rfl)
    (hfew : ((backTo pos (starEach (e :: []) X.env)).all (fun x => !x.1) && (backToKw pos (keywordEach [] X.env)).all (fun x => x.1.isSome)
      && decide ((e :: []).length + ([] : List Keyword).length + (if ([] : List Keyword).isEmpty then 0 else 1) < 30)) = true := by rfl)
    (hline : (apos.endLine == pos.line) = true := by rfl) (hs : starEach (e :: []) X.env = (false, eval e X.env) :: starEach [] X.env := by rfl) (hplain : (backTo pos (starEach [] X.env)).any (·.1) = false := by rfl) :
    PEm X W (.Call (.Attribute o "append" apos) [e] [] pos) (mApp mo me) := by
  obtain ⟨t, p, s⟩ := ho.x
  obtain ⟨u, q, r⟩ := he.x
  exact .of (pe_bm PySem.F.plainAttrs_list PySem.F.slot_list_append PySem.F.type_list_append mt_append p (pa_cons q pa_nil hs) hbase hfew hline hs hplain) (se_app s r)
theorem em_extend {apos : Pos} (ho : PEm X W o mo) (he : PEm X W e me) (hbase : attributeBase o "extend" X.env (eval o X.env) = eval o X.env := by rfl)
    (hfew : ((backTo pos (starEach (e :: []) X.env)).all (fun x => !x.1) && (backToKw pos (keywordEach [] X.env)).all (fun x => x.1.isSome)
      && decide ((e :: []).length + ([] : List Keyword).length + (if ([] : List Keyword).isEmpty then 0 else 1) < 30)) = true := by rfl)
    (hline : (apos.endLine == pos.line) = true := by rfl) (hs : starEach (e :: []) X.env = (false, eval e X.env) :: starEach [] X.env := by rfl) (hplain : (backTo pos (starEach [] X.env)).any (·.1) = false := by rfl) :
    PEm X W (.Call (.Attribute o "extend" apos) [e] [] pos) (mExt mo me) := by
  obtain ⟨t, p, s⟩ := ho.x
  obtain ⟨u, q, r⟩ := he.x
  exact .of (pe_bm PySem.F.plainAttrs_list PySem.F.slot_list_extend PySem.F.type_list_extend mt_extend p (pa_cons q pa_nil hs) hbase hfew hline hs hplain) (se_ext s r)
/-- what is known of a def: where it stands, its worth, its defaults -/
structure Df (P : Program) (w : World) (K : PySem.W.Frag) (mg : Str → Option Value) (base : Heap) (k : Nat) (f : Addr) (n nd : Nat) (ds : List AV) (F : Fn) : Prop where
  ex : ∃ (fd : FuncData) (ps : List Str) (dvs : List V) (vs : List Value), ps.length = n ∧ FnK P w K mg base k f fd ps F ∧ Binds K fd ps vs ∧ Vals dvs vs ∧ (∀ μ G, RL K μ G ds dvs)
  kp : PySem.W.keepIn K (.ref f) = true
theorem em_call {x : Str} {p : Pos} {f : Addr} {k n nd : Nat} {ds : List AV} {F : Fn} (D : Df X.prog X.w X.K X.mg X.base k f n nd ds F) (hr : Room k X.A) (hm : X.mg x = some (.ref f)) (ha : PAm X W (e :: es) m) (hg : Gl X x := by rfl)
    (hdb : (x == ("__debug__" : Str)) = false := by decide) (he : starEach (e :: es) X.env = (false, eval e X.env) :: starEach es X.env := by rfl) (hpl : (backTo pos (starEach es X.env)).any (·.1) = false := by rfl) :
    PEm X W (.Call (.Name x p) (e :: es) [] pos) (mCall n F ds m) := by
  obtain ⟨fd, ps, dvs, vs, hn, FF, hb, hd, hds⟩ := D.ex
  obtain ⟨t, q, s⟩ := ha.x
  subst hn
  exact .of (pe_call FF hr hg hm D.kp hb hd passL q hdb he hpl) (se_call hds s)
theorem em_call0 {x : Str} {p : Pos} {f : Addr} {k n nd : Nat} {ds : List AV} {F : Fn} (D : Df X.prog X.w X.K X.mg X.base k f n nd ds F) (hr : Room k X.A) (hm : X.mg x = some (.ref f)) (hg : Gl X x := by rfl)
    (hdb : (x == ("__debug__" : Str)) = false := by decide) : PEm X W (.Call (.Name x p) [] [] pos) (mCall n F ds mNil) := by
  obtain ⟨fd, ps, dvs, vs, hn, FF, hb, hd, hds⟩ := D.ex
  subst hn
  exact .of (pe_call0 FF hr hg hm D.kp hb hd passL hdb) (se_call hds sim_nil)
theorem em_meth {pl : Sem Bool} {c m' : Str} {apos : Pos} {f : Addr} {k n nd : Nat} {ds : List AV} {F : Fn} (D : Df X.prog X.w X.K X.mg X.base k f n nd ds F) (hr : Room k X.A) (hc : Cls X.K (He.ga X.K c)) (hm : Meth X.K (He.ga X.K c) m' f) (ho : PEm X W o mo) (ha : PAm X W (e :: es) m)
    (hst : starEach (e :: es) X.env = (false, eval e X.env) :: starEach es X.env := by rfl) (hpl : (backTo pos (starEach es X.env)).any (·.1) = false := by rfl)
    (ht : eval (.Call (.Attribute o m' apos) (e :: es) [] pos) X.env = (do
      let ov ← eval o X.env
      standAt apos.atName
      let (f, first) ← holding [ov] (getMethod ov m' pl)
      callWith pos f first (backTo pos (starEach (e :: es) X.env)) (backToKw pos (keywordEach [] X.env))) := by rfl) :
    PEm X W (.Call (.Attribute o m' apos) (e :: es) [] pos) (mMeth c m' n F ds mo m) := by
  obtain ⟨fd, ps, dvs, vs, hn, FF, hb, hd, hds⟩ := D.ex
  obtain ⟨t, q, s⟩ := ha.x
  obtain ⟨t', q', s'⟩ := ho.x
  subst hn
  exact .of (pe_meth q' hc hm FF hr hb hd passL q hst hpl ht) (se_meth hds s' s)
theorem em_meth0 {pl : Sem Bool} {c m' : Str} {apos : Pos} {f : Addr} {k n nd : Nat} {ds : List AV} {F : Fn} (D : Df X.prog X.w X.K X.mg X.base k f n nd ds F) (hr : Room k X.A) (hc : Cls X.K (He.ga X.K c)) (hm : Meth X.K (He.ga X.K c) m' f) (ho : PEm X W o mo)
    (ht : eval (.Call (.Attribute o m' apos) [] [] pos) X.env = (do
      let ov ← eval o X.env
      standAt apos.atName
      let (f, first) ← holding [ov] (getMethod ov m' pl)
      callWith pos f first (backTo pos (starEach [] X.env)) (backToKw pos (keywordEach [] X.env))) := by rfl) :
    PEm X W (.Call (.Attribute o m' apos) [] [] pos) (mMeth c m' n F ds mo mNil) := by
  obtain ⟨fd, ps, dvs, vs, hn, FF, hb, hd, hds⟩ := D.ex
  obtain ⟨t', q', s'⟩ := ho.x
  subst hn
  exact .of (pe_meth0 q' hc hm FF hr hb hd passL ht) (se_meth hds s' sim_nil)
theorem em_make {x : Str} {p : Pos} {f : Addr} {k n nd : Nat} {ds : List AV} {F : Fn} (D : Df X.prog X.w X.K X.mg X.base k f n nd ds F) (hr : Room (k + 1) X.A) (M : Mk X.K (He.ga X.K x) f) (hm : X.mg x = some (.ref (He.ga X.K x))) (ha : PAm X W (e :: es) m) (hg : Gl X x := by rfl)
    (hdb : (x == ("__debug__" : Str)) = false := by decide) (he : starEach (e :: es) X.env = (false, eval e X.env) :: starEach es X.env := by rfl) (hpl : (backTo pos (starEach es X.env)).any (·.1) = false := by rfl) :
    PEm X W (.Call (.Name x p) (e :: es) [] pos) (mMake x n F ds m) := by
  obtain ⟨fd, ps, dvs, vs, hn, FF, hb, hd, hds⟩ := D.ex
  obtain ⟨t, q, s⟩ := ha.x
  subst hn
  exact .of (pe_make M FF hr hg hm hb hd passL q hdb he hpl) (se_make hds s)
theorem em_make0 {x : Str} {p : Pos} {f : Addr} {k n nd : Nat} {ds : List AV} {F : Fn} (D : Df X.prog X.w X.K X.mg X.base k f n nd ds F) (hr : Room (k + 1) X.A) (M : Mk X.K (He.ga X.K x) f) (hm : X.mg x = some (.ref (He.ga X.K x))) (hg : Gl X x := by rfl)
    (hdb : (x == ("__debug__" : Str)) = false := by decide) : PEm X W (.Call (.Name x p) [] [] pos) (mMake x n F ds mNil) := by
  obtain ⟨fd, ps, dvs, vs, hn, FF, hb, hd, hds⟩ := D.ex
  subst hn
  exact .of (pe_make0 M FF hr hg hm hb hd passL hdb) (se_make hds sim_nil)
theorem em_makeC {x : Str} {p : Pos} {f : Addr} {k n nd : Nat} {ds : List AV} {F : Fn} (D : Df X.prog X.w X.K X.mg X.base k f n nd ds F) (hr : Room (k + 1) X.A) (M : Mk X.K (He.ga X.K x) f) (hm : X.mg x = some (.ref (He.ga X.K x))) (ha : PAm X W (e :: es) m) (hg : Gl X x := by rfl)
    (hdb : (x == ("__debug__" : Str)) = false := by decide) (he : starEach (e :: es) X.env = (false, eval e X.env) :: starEach es X.env := by rfl) (hpl : (backTo pos (starEach es X.env)).any (·.1) = false := by rfl) :
    PEm X W (.Call (.Name x p) (e :: es) [] pos) (mMakeC x n F ds m) := by
  obtain ⟨fd, ps, dvs, vs, hn, FF, hb, hd, hds⟩ := D.ex
  obtain ⟨t, q, s⟩ := ha.x
  subst hn
  exact .of (pe_make M FF hr hg hm hb hd passL q hdb he hpl) (se_makeC hds s)
/-! a module's constant -/
theorem em_glob {x : Str} {u : Value} {v : V} {d : AV} (hm : X.mg x = some u) (r : RelV v u) (hr : ∀ μ G, R X.K μ G d v) (hg : Gl X x := by rfl) (hd : (x == ("__debug__" : Str)) = false := by decide) : PEm X W (.Name x pos) (mC d) := .of (pe_glob hg hm r hd) (sim_c hr)
/-! loops -/
theorem im_seq {tg : Expr} (he : PEm X W e me) : PIm X W tg e (iSq me) := by
  obtain ⟨t, p, s⟩ := he.x
  exact ⟨_, pi_seq p, si_seq s⟩
theorem im_r1 {tg : Expr} {p : Pos} (hm : X.mg "range" = none) (ha : PAm X W [a] m) (hg : Gl X "range" := by rfl) (hs : starEach [a] X.env = [(false, eval a X.env)] := by rfl) : PIm X W tg (.Call (.Name "range" p) [a] [] pos) (iR1 m) := by
  obtain ⟨t, q, s⟩ := ha.x
  exact ⟨_, pi_range1 hg hm q hs, si_r1 s⟩
theorem im_r2 {tg : Expr} {p : Pos} (hm : X.mg "range" = none) (ha : PAm X W [a, b] m) (hg : Gl X "range" := by rfl) (hs : starEach [a, b] X.env = [(false, eval a X.env), (false, eval b X.env)] := by rfl) (hs2 : starEach [b] X.env = [(false, eval b X.env)] := by rfl) : PIm X W tg (.Call (.Name "range" p) [a, b] [] pos) (iR2 m) := by
  obtain ⟨t, q, s⟩ := ha.x
  exact ⟨_, pi_range2 hg hm q hs hs2, si_r2 s⟩
theorem st_for {tg iter : Expr} {body : List Stmt} {it : MI} {mb : MS} (hp : PassesOwn (model X.prog X.w) X.A X.env X.xe) (hc : X.calm = true) (hi : PIm X W tg iter it) (hg : PGm X tg g) (hb : PSsm X W body mb)
    (hs : ∀ x, foldedSetIterable iter X.env x = pure x := by intro _; rfl) : PSm X W (.For tg iter body [] pos) (mFor it g mb) := by
  obtain ⟨wi, pi, si⟩ := hi.ex
  obtain ⟨u, q, r⟩ := hg.x (W := W)
  obtain ⟨t, p, s⟩ := hb.x
  exact .of (ps_for hp hc pi q p hs) (ss_for si r s)
theorem st_while {body : List Stmt} {mb : MS} (hp : PassesOwn (model X.prog X.w) X.A X.env X.xe) (hc : PTm X W c mt) (hb : PSsm X W body mb) : PSm X W (.While c body [] pos) (mWhile mt mb) := by
  obtain ⟨tc, pc, sc⟩ := hc.x
  obtain ⟨t, p, s⟩ := hb.x
  exact .of (ps_while hp pc p) (ss_while sc s)
/-! comprehensions -/
theorem tsm_nil : PTsm X [] mYes := .of pts_nil sim_yes
theorem tsm_one (h : PTm X W0 c mt) : PTsm X [c] mt := by
  obtain ⟨t, p, s⟩ := h.x
  exact .of (pts_one p) s
theorem em_lc {elt tg iter : Expr} {ifs : List Expr} {scope : Scope} {own : List (Str × Nat)} {it : MI} (hc : X.calm = true) (hN : X.N.Nodup) (ok : BlkOk X.N X.env.scope scope own) (hi : PIm X W tg iter it)
    (hg : ∀ (s : Shared) (H : Hp) (C : Addr) (cl : List (Str × Addr)) (fp : List Addr), PGo (X.blk s H scope (compEnvC scope cl C X.env) fp) (own.map (·.2)) tg g) (ht : ∀ (s : Shared) (H : Hp) (C : Addr) (cl : List (Str × Addr)) (fp : List Addr), PTsm (X.blk s H scope (compEnvC scope cl C X.env) fp) ifs mt)
    (he : ∀ (s : Shared) (H : Hp) (C : Addr) (cl : List (Str × Addr)) (fp : List Addr), PEm (X.blk s H scope (compEnvC scope cl C X.env) fp) W0 elt me) (hs : ∀ x, foldedSetIterable iter X.env x = pure x := by intro _; rfl) :
    PEm X W (.ListComp elt [⟨tg, iter, ifs, 0⟩] scope pos) (mLc (own.map (·.2)) it g mt me) := by
  obtain ⟨wi, pi, si⟩ := hi.ex
  exact .of (pe_lc hc hN pi ok (fun s H C cl fp => (hg s H C cl fp).p) (fun s H C cl fp => (ht s H C cl fp).p) (fun s H C cl fp => (he s H C cl fp).p) hs) (se_lc si (sGo g) (sT mt) (sE me))
theorem em_lcC {elt tg iter : Expr} {ifs : List Expr} {scope : Scope} {own : List (Str × Nat)} {it : MI} (hc : X.calm = true) (hN : X.N.Nodup) (ok : BlkOk X.N X.env.scope scope own) (hi : PIm X W tg iter it)
    (hg : ∀ (s : Shared) (H : Hp) (C : Addr) (cl : List (Str × Addr)) (fp : List Addr), PGo (X.blk s H scope (compEnvC scope cl C X.env) fp) (own.map (·.2)) tg g) (ht : ∀ (s : Shared) (H : Hp) (C : Addr) (cl : List (Str × Addr)) (fp : List Addr), PTsm (X.blk s H scope (compEnvC scope cl C X.env) fp) ifs mt)
    (he : ∀ (s : Shared) (H : Hp) (C : Addr) (cl : List (Str × Addr)) (fp : List Addr), PEm (X.blk s H scope (compEnvC scope cl C X.env) fp) W0 elt me) (hs : ∀ x, foldedSetIterable iter X.env x = pure x := by intro _; rfl) :
    PEm X W (.ListComp elt [⟨tg, iter, ifs, 0⟩] scope pos) (mLcC (own.map (·.2)) it g mt me) := by
  obtain ⟨wi, pi, si⟩ := hi.ex
  exact .of (pe_lc hc hN pi ok (fun s H C cl fp => (hg s H C cl fp).p) (fun s H C cl fp => (ht s H C cl fp).p) (fun s H C cl fp => (he s H C cl fp).p) hs) (se_lcC si (sGo g) (sT mt) (sE me))
/-- y = [..] -/
theorem st_setLc (j : Nat) {y : Str} {py : Pos} {elt tg iter : Expr} {ifs : List Expr} {scope : Scope} {own : List (Str × Nat)} {spos : Pos} {it : MI} (hc : X.calm = true) (hN : X.N.Nodup) (ok : BlkOk X.N X.env.scope scope own)
    (hsw : swapsWith (.ListComp elt [⟨tg, iter, ifs, 0⟩] scope pos) (some (.Name y py)) spos.line X.env = pure true) (hi : PIm X W tg iter it)
    (hg : ∀ (s : Shared) (H : Hp) (C : Addr) (cl : List (Str × Addr)) (fp : List Addr), PGo (X.blk s H scope (compEnvC scope cl C X.env) fp) (own.map (·.2)) tg g) (ht : ∀ (s : Shared) (H : Hp) (C : Addr) (cl : List (Str × Addr)) (fp : List Addr), PTsm (X.blk s H scope (compEnvC scope cl C X.env) fp) ifs mt)
    (he : ∀ (s : Shared) (H : Hp) (C : Addr) (cl : List (Str × Addr)) (fp : List Addr), PEm (X.blk s H scope (compEnvC scope cl C X.env) fp) W0 elt me) (hy : X.N[j]? = some y := by rfl) (hyl : X.env.scope.names.lookup y = some .local := by rfl) (hs : ∀ x, foldedSetIterable iter X.env x = pure x := by intro _; rfl) :
    PSm X W (.Assign [.Name y py] (.ListComp elt [⟨tg, iter, ifs, 0⟩] scope pos) spos) (mAsg (mLc (own.map (·.2)) it g mt me) (gNm j)) := by
  obtain ⟨wi, pi, si⟩ := hi.ex
  exact .of (ps_setLc hc hN hy hyl hsw pi ok (fun s H C cl fp => (hg s H C cl fp).p) (fun s H C cl fp => (ht s H C cl fp).p) (fun s H C cl fp => (he s H C cl fp).p) hs) (ss_asg (se_lc si (sGo g) (sT mt) (sE me)) (sg_nm (W := W)))
theorem st_setLcC (j : Nat) {y : Str} {py : Pos} {elt tg iter : Expr} {ifs : List Expr} {scope : Scope} {own : List (Str × Nat)} {spos : Pos} {it : MI} (hc : X.calm = true) (hN : X.N.Nodup) (ok : BlkOk X.N X.env.scope scope own)
    (hsw : swapsWith (.ListComp elt [⟨tg, iter, ifs, 0⟩] scope pos) (some (.Name y py)) spos.line X.env = pure true) (hi : PIm X W tg iter it)
    (hg : ∀ (s : Shared) (H : Hp) (C : Addr) (cl : List (Str × Addr)) (fp : List Addr), PGo (X.blk s H scope (compEnvC scope cl C X.env) fp) (own.map (·.2)) tg g) (ht : ∀ (s : Shared) (H : Hp) (C : Addr) (cl : List (Str × Addr)) (fp : List Addr), PTsm (X.blk s H scope (compEnvC scope cl C X.env) fp) ifs mt)
    (he : ∀ (s : Shared) (H : Hp) (C : Addr) (cl : List (Str × Addr)) (fp : List Addr), PEm (X.blk s H scope (compEnvC scope cl C X.env) fp) W0 elt me) (hy : X.N[j]? = some y := by rfl) (hyl : X.env.scope.names.lookup y = some .local := by rfl) (hs : ∀ x, foldedSetIterable iter X.env x = pure x := by intro _; rfl) :
    PSm X W (.Assign [.Name y py] (.ListComp elt [⟨tg, iter, ifs, 0⟩] scope pos) spos) (mAsg (mLcC (own.map (·.2)) it g mt me) (gNm j)) := by
  obtain ⟨wi, pi, si⟩ := hi.ex
  exact .of (ps_setLc hc hN hy hyl hsw pi ok (fun s H C cl fp => (hg s H C cl fp).p) (fun s H C cl fp => (ht s H C cl fp).p) (fun s H C cl fp => (he s H C cl fp).p) hs) (ss_asg (se_lcC si (sGo g) (sT mt) (sE me)) (sg_nm (W := W)))
end
end Mi

set_option maxRecDepth 100000
set_option maxHeartbeats 4000000
/-! Slices, membership, truth. -/
namespace Mi
open PySem PySem.Spec L2

/-! ### slices -/
abbrev MO' := Env2 → AHeap → Ret (Option Int)
def oNone : MO' := fun _ h => .ok none h
def oSome (e : ME) : MO' := fun ρ h => match e ρ h with
  | .ok (.int i) h1 => .ok (some i) h1
  | .exc x h1 => .exc x h1
  | _ => .bad
def mSl (e : ME) (lo hi : MO') : ME := fun ρ h => match e ρ h with
  | .bad => .bad
  | .exc x h1 => .exc x h1
  | .ok x h1 => match lo ρ h1 with
    | .ok l h2 => (match hi ρ h2 with
      | .ok u h3 => (match aSl x l u h3 with
        | some z => .ok z h3
        | none => .bad)
      | _ => .bad)
    | _ => .bad
def SimO (K : PySem.W.Frag) (W : WX2) (t : TO) (m : MO') : Prop := ∀ σ H ρ h G μ, Rel K σ H ρ h G μ → ∀ Q : Option Int → Hp → Prop, match m ρ h with
  | .ok b h' => (∀ H' G' μ', Rel K σ H' ρ h' G' μ' → Ext G μ G' μ' → Q b H') → t σ H Q
  | _ => True
section
variable {K : PySem.W.Frag} {W : WX2} {te : TE} {e : ME} {tl tu : TO} {lo hi : MO'}
theorem so_none : SimO K W tNoPart oNone := fun σ H ρ h G μ rel Q k => k H G μ rel (Ext.refl _ _)
theorem so_some (he : SimE K W te e) : SimO K W (tPart te) (oSome e) := fun σ H ρ h G μ rel Q => by
  unfold oSome
  have A := he σ H ρ h G μ rel
  cases ea : e ρ h with
  | bad => trivial
  | exc z h1 => trivial
  | ok x h1 =>
    rw [ea] at A
    cases x with
    | int i =>
      intro k
      exact A _ fun v H1 G1 μ1 r1 x1 rv => ⟨i, rv, k H1 G1 μ1 r1 x1⟩
    | _ => trivial
theorem RL.cut {μ : List Addr} {G : Hp} {l : List AV} {vs : List V} {a b : Option Int} (r : RL K μ G l vs) : RL K μ G (cutA l a b) (cutV vs a b) := by
  unfold cutA cutV
  rw [r.length]
  exact RL.take _ (RL.drop _ r)
theorem se_sl (he : SimE K W te e) (hl : SimO K W tl lo) (hu : SimO K W tu hi) : SimE K W (tSl (fun x lo hi H Q => rSlL K x lo hi H Q ∨ rSlA K x lo hi H Q) te tl tu) (mSl e lo hi) := fun σ H ρ h G μ rel Q => by
  unfold mSl
  have A := he σ H ρ h G μ rel
  cases ea : e ρ h with
  | bad => trivial
  | exc z h1 =>
    rw [ea] at A
    exact A _
  | ok x h1 =>
    rw [ea] at A
    dsimp only
    cases eb : lo ρ h1 with
    | bad => trivial
    | exc z h2 => trivial
    | ok l h2 =>
      dsimp only
      cases ec : hi ρ h2 with
      | bad => trivial
      | exc z h3 => trivial
      | ok u h3 =>
        dsimp only
        cases ez : aSl x l u h3 with
        | none => trivial
        | some z =>
          intro k
          refine A _ fun v H1 G1 μ1 r1 x1 rv => ?_
          have B := hl σ H1 ρ h1 G1 μ1 r1 (fun l H2 => tu σ H2 fun u H3 => rSlL K v l u H3 Q ∨ rSlA K v l u H3 Q)
          rw [eb] at B
          refine B fun H2 G2 μ2 r2 x2 => ?_
          have C := hu σ H2 ρ h2 G2 μ2 r2 (fun u H3 => rSlL K v l u H3 Q ∨ rSlA K v l u H3 Q)
          rw [ec] at C
          refine C fun H3 G3 μ3 r3 x3 => ?_
          unfold aSl at ez
          cases eg : getL h3 x with
          | none =>
            rw [eg] at ez
            cases ez
          | some ll =>
            rw [eg] at ez
            dsimp only at ez
            obtain ⟨a, vs, ev, ra, s⟩ := getL_sq r3.hp (R.mono (x2.trans x3) rv) eg
            have xx := (x1.trans x2).trans x3
            rcases s with ⟨ht, s, sg⟩ | ⟨ht, s⟩
            · rw [if_pos ht] at ez
              cases ez
              refine .inr ⟨a, vs, ev, s, fun hw => ?_, fun hw p hp => ?_⟩
              · refine k _ H3 G3 μ3 r3 xx ⟨a, vs, rfl, sg, ?_⟩
                have e1 : cutV vs l u = vs := by
                  unfold cutV
                  rw [hw.1, hw.2, List.drop_zero, Nat.sub_zero, List.take_length]
                have := RL.cut (a := l) (b := u) ra
                rw [e1] at this
                exact this
              · obtain ⟨g, y⟩ := r3.hp.grow (o := .tup (cutV vs l u)) hp
                exact k _ _ _ μ3 ⟨g, r3.sl.mono y⟩ (xx.trans y) ⟨p, _, rfl, SqT.of upd_same, RL.mono y (RL.cut ra)⟩
            · rw [if_neg (by rw [ht]; exact Bool.false_ne_true)] at ez
              cases ez
              refine .inl ⟨a, vs, ev, s, fun p hp => ?_⟩
              obtain ⟨g, y⟩ := r3.hp.grow (o := .lst (cutV vs l u)) hp
              exact k _ _ _ μ3 ⟨g, r3.sl.mono y⟩ (xx.trans y) ⟨p, _, rfl, upd_same, RL.mono y (RL.cut ra)⟩
end
structure POm (X : Cx) (W : WX2) (e : Option Expr) (m : MO') : Prop where
  ex : ∃ t, PO X e t ∧ SimO X.K W t m

/-! ### membership -/
def pyL (h : AHeap) (x : AV) : Option (List PyData) := match py h x with
  | some (.list ds) => some ds
  | _ => none
def aIn : F2 := fun x y h => match py h x, pyL h y with
  | some d, some ds => if SeqAt.shaped d = true ∧ SeqAt.shaped (.list ds) = true then some (.bl (ds.any fun z => PyData.eqv z d)) else none
  | _, _ => none
def aNotIn : F2 := fun x y h => match py h x, pyL h y with
  | some d, some ds => if SeqAt.shaped d = true ∧ SeqAt.shaped (.list ds) = true then some (.bl (!ds.any fun z => PyData.eqv z d)) else none
  | _, _ => none
section
variable {K : PySem.W.Frag}
theorem pyL_py {h : AHeap} {x : AV} {ds : List PyData} (e : pyL h x = some ds) : py h x = some (.list ds) := by
  unfold pyL at e
  cases q : py h x with
  | none =>
    rw [q] at e
    cases e
  | some d =>
    rw [q] at e
    cases d <;> cases e
    rfl
theorem sr_in : SimR K (rInD K) aIn := fun H h G μ rh x y v u rx ry Q z e k => by
  unfold aIn at e
  cases ex : py h x with
  | none =>
    rw [ex] at e
    cases e
  | some d =>
    cases ey : pyL h y with
    | none =>
      rw [ex, ey] at e
      cases e
    | some ds =>
      rw [ex, ey] at e
      dsimp only at e
      by_cases hc : SeqAt.shaped d = true ∧ SeqAt.shaped (.list ds) = true
      · rw [if_pos hc] at e
        cases e
        exact ⟨d, ds, py_dp rh rx ex, py_dp rh ry (pyL_py ey), hc.1, hc.2, k _ H G rh (Ext.refl _ _) rfl⟩
      · rw [if_neg hc] at e
        cases e
theorem sr_notIn : SimR K (rNotInD K) aNotIn := fun H h G μ rh x y v u rx ry Q z e k => by
  unfold aNotIn at e
  cases ex : py h x with
  | none =>
    rw [ex] at e
    cases e
  | some d =>
    cases ey : pyL h y with
    | none =>
      rw [ex, ey] at e
      cases e
    | some ds =>
      rw [ex, ey] at e
      dsimp only at e
      by_cases hc : SeqAt.shaped d = true ∧ SeqAt.shaped (.list ds) = true
      · rw [if_pos hc] at e
        cases e
        exact ⟨d, ds, py_dp rh rx ex, py_dp rh ry (pyL_py ey), hc.1, hc.2, k _ H G rh (Ext.refl _ _) rfl⟩
      · rw [if_neg hc] at e
        cases e
end

/-! ### truth -/
def truth (h : AHeap) : AV → Option Bool
  | .non => some false
  | .bl b => some b
  | .int i => some (i != 0)
  | .str s => if s.length ≤ sizeLine then some ((s.length : Int) != 0) else none
  | x => match getL h x with
    | some l => some (!l.isEmpty)
    | none => none
theorem truth_rel {K : PySem.W.Frag} {H : Hp} {h : AHeap} {G : Hp} {μ : List Addr} {x : AV} {v : V} {b : Bool} (rh : RelH K H h G μ) (r : R K μ G x v) (e : truth h x = some b) : TruV K v H b := by
  have seq : ∀ {x : AV}, R K μ G x v → (match getL h x with
    | some l => some (!l.isEmpty)
    | none => none) = some b → TruV K v H b := fun {x} r e => by
    cases q : getL h x with
    | none =>
      rw [q] at e
      cases e
    | some l =>
      rw [q] at e
      cases e
      obtain ⟨a, vs, ev, ra, s⟩ := getL_sq rh r q
      have hl : (!l.isEmpty) = !vs.isEmpty := by
        have := ra.length
        cases l <;> cases vs <;> simp at this ⊢
      subst ev
      rcases s with ⟨_, s, _⟩ | ⟨_, s⟩
      · exact .inr (.inl ⟨vs, s, hl⟩)
      · exact .inl ⟨vs, s, hl⟩
  cases x with
  | non =>
    cases e
    have r' : v = .non := r
    subst r'
    rfl
  | bl c =>
    cases e
    have r' : v = .bl b := r
    subst r'
    rfl
  | int i =>
    cases e
    have r' : v = .int i := r
    subst r'
    rfl
  | str s =>
    have r' : v = .str s := r
    subst r'
    have e' : (if s.length ≤ sizeLine then some ((s.length : Int) != 0) else none) = some b := e
    by_cases hc : s.length ≤ sizeLine
    · rw [if_pos hc] at e'
      cases e'
      exact ⟨hc, rfl⟩
    · rw [if_neg hc] at e'
      cases e'
  | ty n => cases e
  | tup l => exact seq r e
  | lst l => exact seq r e
  | lstR l => exact seq r e
  | obj c ks l => exact seq r e
  | ref i => exact seq r e
def mTru (a : ME) : MT := fun ρ h => match a ρ h with
  | .bad => .bad
  | .exc e h1 => .exc e h1
  | .ok x h1 => match truth h1 x with
    | some b => .ok b h1
    | none => .bad
def mNotT (a : ME) : ME := fun ρ h => match a ρ h with
  | .bad => .bad
  | .exc e h1 => .exc e h1
  | .ok x h1 => match truth h1 x with
    | some b => .ok (.bl (!b)) h1
    | none => .bad
section
variable {K : PySem.W.Frag} {W : WX2} {ta : TE} {a : ME}
theorem st_tru (ha : SimE K W ta a) : SimT K W (fun σ H Q => ta σ H fun x H' => ∃ k, TruV K x H' k ∧ Q k H') (mTru a) := fun σ H ρ h G μ rel Q => by
  unfold mTru
  have A := ha σ H ρ h G μ rel
  cases ea : a ρ h with
  | bad => trivial
  | exc e h1 =>
    rw [ea] at A
    exact A _
  | ok x h1 =>
    rw [ea] at A
    dsimp only
    cases eb : truth h1 x with
    | none => trivial
    | some b =>
      intro k
      exact A _ fun v H1 G1 μ1 r1 x1 rv => ⟨b, truth_rel r1.hp rv eb, k H1 G1 μ1 r1 x1⟩
theorem se_notT (ha : SimE K W ta a) : SimE K W (tNotT K ta) (mNotT a) := fun σ H ρ h G μ rel Q => by
  unfold mNotT
  have A := ha σ H ρ h G μ rel
  cases ea : a ρ h with
  | bad => trivial
  | exc e h1 =>
    rw [ea] at A
    exact A _
  | ok x h1 =>
    rw [ea] at A
    dsimp only
    cases eb : truth h1 x with
    | none => trivial
    | some b =>
      intro k
      exact A _ fun v H1 G1 μ1 r1 x1 rv => ⟨b, truth_rel r1.hp rv eb, k _ H1 G1 μ1 r1 x1 rfl⟩
end
section
variable {X : Cx} {W : WX2} {a e : Expr} {ma me : ME} {pos p2 : Pos} {lo hi : Option Expr} {ml mh : MO'}
theorem om_none : POm X W none oNone := ⟨_, po_none, so_none⟩
theorem om_some (h : PEm X W e me) : POm X W (some e) (oSome me) := by
  obtain ⟨t, p, s⟩ := h.x
  exact ⟨_, po_some p, so_some s⟩
theorem em_sl (he : PEm X W e me) (hl : POm X W lo ml) (hu : POm X W hi mh) : PEm X W (.Subscript e (.Slice lo hi none p2) pos) (mSl me ml mh) := by
  obtain ⟨t, p, s⟩ := he.x
  obtain ⟨tl, pl, sl⟩ := hl.ex
  obtain ⟨tu, pu, su⟩ := hu.ex
  exact .of (pe_slice (SlR.or sl_list sl_tupA) p pl pu) (se_sl s sl su)
theorem tm_tru (ha : PEm X W a ma) (he : ∀ whole, isTrue a X.env whole = (do let v ← whole; standAt a.pos; holding [v] (truthy v)) := by intro _; rfl) : PTm X W a (mTru ma) := by
  obtain ⟨t, p, s⟩ := ha.x
  exact .of (pt_truth p he) (st_tru s)
theorem em_notT (ha : PEm X W a ma) : PEm X W (.UnaryOp .Not a pos) (mNotT ma) := by
  obtain ⟨t, p, s⟩ := ha.x
  exact .of (pe_notT p) (se_notT s)
end

/-! ### two-place max, min -/
def aMax2 : FC := fun xs _ => match xs with
  | [.int i, .int j] => some (.int (if j > i then j else i))
  | _ => none
def aMin2 : FC := fun xs _ => match xs with
  | [.int i, .int j] => some (.int (if j < i then j else i))
  | _ => none
theorem sc_max2 {K : PySem.W.Frag} : SimC K (fun xs H Q => ∃ i j, xs = [.int i, .int j] ∧ Q (.int (if j > i then j else i)) H) aMax2 := fun H h G μ rh xs vs rs Q z e k => by
  match xs, e with
  | [.int i, .int j], e =>
    cases e
    obtain ⟨v, u, ev, rv, ru⟩ := two_inv rs
    have rv' : v = .int i := rv
    have ru' : u = .int j := ru
    subst ev rv' ru'
    exact ⟨i, j, rfl, k _ H G rh (Ext.refl _ _) rfl⟩
theorem sc_min2 {K : PySem.W.Frag} : SimC K (fun xs H Q => ∃ i j, xs = [.int i, .int j] ∧ Q (.int (if j < i then j else i)) H) aMin2 := fun H h G μ rh xs vs rs Q z e k => by
  match xs, e with
  | [.int i, .int j], e =>
    cases e
    obtain ⟨v, u, ev, rv, ru⟩ := two_inv rs
    have rv' : v = .int i := rv
    have ru' : u = .int j := ru
    subst ev rv' ru'
    exact ⟨i, j, rfl, k _ H G rh (Ext.refl _ _) rfl⟩
end Mi

set_option maxRecDepth 100000
set_option maxHeartbeats 4000000
/-! The head: what the top has left. -/
namespace Mi
open PySem PySem.Spec L2

/-! ### more facts -/
inductive XFa where
  | blt (x : Str) (id : String)
  | tup (x : Str) (vs : List He.Dv)
  | tupAt (p : PySem.W.Frag → Addr) (vs : List He.Dv)
def tupBA (K : PySem.W.Frag) (a : Addr) (vs : List He.Dv) : Bool := match K.lookup a with
  | some ⟨.type c, _, .seq its _, _⟩ => decide (c = "tuple") && (decide (its.size ≤ sizeLine) && He.relAll (vs.map (He.Dv.v K)) its.toList)
  | _ => false
def XFa.ok (K : PySem.W.Frag) : XFa → Bool
  | .blt x id => (match PySem.W.nsIn K mainGlobals x with
    | some (some (.builtin j)) => decide (j = id)
    | _ => false)
  | .tup x vs => He.eqO (PySem.W.nsIn K mainGlobals x) (some (some (.ref (He.ga K x)))) && tupBA K (He.ga K x) vs
  | .tupAt p vs => tupBA K (p K) vs
theorem tupBA_ok {K : PySem.W.Frag} {a : Addr} {vs : List He.Dv} (h : tupBA K a vs = true) (H : Hp) : SqT K H a (vs.map (He.Dv.v K)) := by
  unfold tupBA at h
  cases q : K.lookup a with
  | none =>
    rw [q] at h
    cases h
  | some o =>
    obtain ⟨oc, od, dt, osl⟩ := o
    rw [q] at h
    cases oc with
    | type c =>
      cases dt with
      | seq its n =>
        obtain ⟨h1, h2⟩ := He.ba (show (decide (c = "tuple") && (decide (its.size ≤ sizeLine) && He.relAll (vs.map (He.Dv.v K)) its.toList)) = true from h)
        obtain ⟨h3, h4⟩ := He.ba h2
        exact .inr ⟨_, its, n, q, congrArg Value.type (of_decide_eq_true h1), rfl, of_decide_eq_true h3, He.relAll_ok h4⟩
      | _ => cases h
    | _ => cases dt <;> cases h
abbrev AlM : Type := He.AlD × Bool
def obsM (n : Nat) (fa : List He.Fa) (fn : List He.DefD) (xf : List XFa) (g : Addr → Option Obj) : AlM := (He.obsD fa fn (He.frG g (He.asD g n)), xf.all fun f => f.ok (He.frG g (He.asD g n)))
def SaysM (fa : List He.Fa) (fn : List He.DefD) (xf : List XFa) (K : PySem.W.Frag) : Prop := He.SaysD fa fn K ∧ (xf.all fun f => f.ok K) = true
def hookM (n : Nat) (fa : List He.Fa) (fn : List He.DefD) (xf : List XFa) : PySem.W.Hook where
  α := AlM
  obs := fun s => obsM n fa fn xf s.heap.get?
  val := fun _ => (He.valD fn, true)
  says := fun _ h => ∃ K : PySem.W.Frag, K.In h ∧ SaysM fa fn xf K
  of := fun _ s e => ⟨_, He.frG_in, congrArg (fun z : AlM => z.1) e, congrArg (fun z : AlM => z.2) e⟩
  keeps := fun _ _ _ ⟨K, hK, c⟩ k => ⟨K, PySem.W.Frag.In.keeps hK k, c⟩
theorem obsM_eq {n : Nat} {fa : List He.Fa} {fn : List He.DefD} {xf : List XFa} {g : Addr → Option Obj} {s : Shared} (h : ∀ a, g a = s.heap.get? a) : obsM n fa fn xf g = (hookM n fa fn xf).obs s := by
  have e : g = s.heap.get? := funext h
  rw [e] <;> rfl

/-- what is known behind the top -/
structure TX (fa : List He.Fa) (fn : List He.DefD) (xf : List XFa) (K : PySem.W.Frag) (mg : Str → Option Value) : Prop where
  c : SaysM fa fn xf K
  h : ∃ h : Heap, K.In h ∧ h.Ns mainGlobals mg
section
variable {fa : List He.Fa} {fn : List He.DefD} {xf : List XFa} {K : PySem.W.Frag} {mg : Str → Option Value}
theorem TX.glo (T : TX fa fn xf K mg) (i : Nat) {x : Str} (e : fa[i]? = some (.glo x) := by rfl) : mg x = some (.ref (He.ga K x)) := by
  obtain ⟨h, X, G⟩ := T.h
  exact He.glo_ok X G (T.c.1.fact i e)
theorem TX.free (T : TX fa fn xf K mg) (i : Nat) {x : Str} (e : fa[i]? = some (.free x) := by rfl) : mg x = none := by
  obtain ⟨h, X, G⟩ := T.h
  exact He.free_ok X G (T.c.1.fact i e)
theorem TX.cls (T : TX fa fn xf K mg) (i : Nat) {x : Str} (e : fa[i]? = some (.cls x) := by rfl) : Cls K (He.ga K x) := He.cls_ok (T.c.1.fact i e)
theorem TX.meth (T : TX fa fn xf K mg) (i : Nat) {x m : Str} (e : fa[i]? = some (.meth x m) := by rfl) : Meth K (He.ga K x) m (He.ma K (He.ga K x) m) := He.meth_ok (T.c.1.fact i e)
theorem TX.mkr (T : TX fa fn xf K mg) (i : Nat) {x : Str} (e : fa[i]? = some (.mkr x) := by rfl) : Mk K (He.ga K x) (He.ma K (He.ga K x) "__init__") := He.mkr_ok (T.c.1.fact i e)
theorem TX.ca (T : TX fa fn xf K mg) (i j : Nat) {x f : Str} (e : fa[i]? = some (.cls x) := by rfl) (e2 : fa[j]? = some (.noat x f) := by rfl) : CA K x f := ⟨He.cls_ok (T.c.1.fact i e), He.noat_ok (T.c.1.fact j e2)⟩
theorem TX.xfa (T : TX fa fn xf K mg) (i : Nat) {f : XFa} (e : xf[i]? = some f) : f.ok K = true := List.all_eq_true.mp T.c.2 f (List.mem_of_getElem? e)
theorem TX.blt (T : TX fa fn xf K mg) (i : Nat) {x : Str} {id : String} (e : xf[i]? = some (.blt x id) := by rfl) : mg x = some (.builtin id) := by
  obtain ⟨h, X, G⟩ := T.h
  have q : (match PySem.W.nsIn K mainGlobals x with
    | some (some (.builtin j)) => decide (j = id)
    | _ => false) = true := T.xfa i e
  cases e1 : PySem.W.nsIn K mainGlobals x with
  | none =>
    rw [e1] at q
    cases q
  | some o =>
    rw [e1] at q
    cases o with
    | none => cases q
    | some v =>
      cases v with
      | builtin j =>
        have ej : j = id := of_decide_eq_true q
        rw [ej] at e1
        exact PySem.W.mg_of X G e1
      | _ => cases q
theorem TX.tup (T : TX fa fn xf K mg) (i : Nat) {x : Str} {vs : List He.Dv} (e : xf[i]? = some (.tup x vs) := by rfl) : mg x = some (.ref (He.ga K x)) ∧ ∀ H, SqT K H (He.ga K x) (vs.map (He.Dv.v K)) := by
  obtain ⟨h, X, G⟩ := T.h
  obtain ⟨q1, q2⟩ := He.ba (show (He.eqO (PySem.W.nsIn K mainGlobals x) (some (some (.ref (He.ga K x)))) && tupBA K (He.ga K x) vs) = true from T.xfa i e)
  exact ⟨PySem.W.mg_of X G (He.eqO_ok q1), tupBA_ok q2⟩
theorem TX.tupAt (T : TX fa fn xf K mg) (i : Nat) {p : PySem.W.Frag → Addr} {vs : List He.Dv} (e : xf[i]? = some (.tupAt p vs) := by rfl) : ∀ H, SqT K H (p K) (vs.map (He.Dv.v K)) := tupBA_ok (show tupBA K (p K) vs = true from T.xfa i e)
end
theorem all1 {p : Str → Prop} {a : Str} (h : p a) : ∀ c ∈ [a], p c := fun c hc => by
  have e : c = a := by simpa using hc
  rw [e]
  exact h
theorem all2 {p : Str → Prop} {a b : Str} (h : p a) (h2 : p b) : ∀ c ∈ [a, b], p c := fun c hc => by
  rcases List.mem_cons.mp hc with e | e
  · rw [e]
    exact h
  · exact all1 h2 c e
theorem allC {p : Str → Prop} {a : Str} {l : List Str} (h : p a) (h2 : ∀ c ∈ l, p c) : ∀ c ∈ a :: l, p c := fun c hc => by
  rcases List.mem_cons.mp hc with e | e
  · rw [e]
    exact h
  · exact h2 c e

/-! ### the law -/
theorem law_sp {K : PySem.W.Frag} {F : Fn} {H : Hp} {a : Addr} {ns : List Int} (hS : SqL K H a (ns.map V.int)) (h : ∃ h', F [.lstR (ns.map AV.int)] [] = .ok (.bl true) h') : spM K 1 F [.ref a] H (fun v _ => v = .bl true) fun _ _ _ => False := by
  obtain ⟨h', e⟩ := h
  refine ⟨[.lstR (ns.map AV.int)], [], H, [], ⟨fun _ _ z => z, rfl, fun i mo e => by simp at e, fun i j a mo mo' e => by simp at e⟩, ?_, rfl, ?_⟩
  · exact RL.cons (x := .lstR (ns.map AV.int)) ⟨a, _, rfl, hS, RL.map (f := AV.int) (g := V.int) (fun _ => rfl) ns⟩ RL.nil
  · rw [e]
    exact fun v H' G' μ' _ _ r => r
theorem cx_none {P : Program} {w : World} {H : Hp} {s : Shared} {e : Value} {s' : Shared} (h : L2.CX P w [] H s (fun _ _ _ => False) e s') : False := by
  obtain ⟨_, _, _, _, _, _, _, _, _, _, _, _, z⟩ := h
  exact z.elim
end Mi

set_option maxRecDepth 100000
set_option maxHeartbeats 4000000
/-! zip of a list or a tuple with a list or a tuple: one proof for the four (true: a tuple). -/
namespace Mi
open PySem PySem.Spec PyProof.Rows L2
def SIt (t : Bool) (h : Heap) (i l : Addr) (k : Nat) : Prop := if t = true then h.IsTupleIter i l k else h.IsListIter i l k
def SSq (t : Bool) (h : Heap) (l : Addr) (xs : Array Value) : Prop := if t = true then h.IsTuple l xs else h.IsList l xs
def SqB (K : PySem.W.Frag) (t : Bool) (H : Hp) (a : Addr) (xs : List V) : Prop := if t = true then SqT K H a xs else SqL K H a xs
theorem SIt.off {t : Bool} {h h' : Heap} {i l c : Addr} {k : Nat} (x : SIt t h i l k) (e : Heap.ExtBut c h h') (n : i ≠ c) : SIt t h' i l k := by
  cases t
  · exact Heap.IsListIter.extBut (show h.IsListIter i l k from x) e n
  · exact Heap.IsTupleIter.extBut (show h.IsTupleIter i l k from x) e n
theorem SIt.to {t : Bool} {h h' : Heap} {i l : Addr} {k : Nat} (x : SIt t h i l k) (e : ∀ o, h.get? i = some o → h'.get? i = some o) : SIt t h' i l k := by
  cases t
  · exact Heap.IsListIter.at (show h.IsListIter i l k from x) e
  · exact Heap.IsTupleIter.at (show h.IsTupleIter i l k from x) e
theorem SIt.ob {t : Bool} {h : Heap} {i l : Addr} {k : Nat} (x : SIt t h i l k) : ∃ o, h.get? i = some o ∧ ∃ d, o.data = .fields d := by
  cases t
  · obtain ⟨o, e, _, d⟩ := (show h.IsListIter i l k from x)
    exact ⟨o, e, _, d⟩
  · obtain ⟨o, e, _, d⟩ := (show h.IsTupleIter i l k from x)
    exact ⟨o, e, _, d⟩
theorem SIt.lt {t : Bool} {h : Heap} {i l : Addr} {k : Nat} (x : SIt t h i l k) : i < h.objs.size := by
  obtain ⟨o, e, _⟩ := x.ob
  exact Heap.lt_size e
theorem SSq.off {t : Bool} {h h' : Heap} {l c : Addr} {xs : Array Value} (x : SSq t h l xs) (e : Heap.ExtBut c h h') (n : l ≠ c) : SSq t h' l xs := by
  cases t
  · exact Heap.IsList.extBut (show h.IsList l xs from x) e n
  · exact Heap.IsTuple.extBut (show h.IsTuple l xs from x) e n
theorem SSq.lt {t : Bool} {h : Heap} {l : Addr} {xs : Array Value} (x : SSq t h l xs) : l < h.objs.size := by
  cases t
  · obtain ⟨o, e, _⟩ := (show h.IsList l xs from x)
    exact Heap.lt_size e
  · obtain ⟨o, e, _⟩ := (show h.IsTuple l xs from x)
    exact Heap.lt_size e
section
variable {prog : Program} {w : World} {A : Around} {E : Value → Shared → Prop} {s : Shared}
theorem nx_item {t : Bool} {i l : Addr} {k : Nat} {xs : Array Value} {x : Value} {Q : Value → Shared → Prop} (a : SIt t s.heap i l k) (b : SSq t s.heap l xs) (e : xs[k]? = some x)
    (q : ∀ g, SIt t g i l (k + 1) → Heap.SameBut i s.heap g → Q x { s with heap := g }) : wpAny (model prog w) A (Builtin.SmallTypes.nextOf (.ref i)) Q E s := by
  cases t
  · exact wpAny_nextOf_list_item a b e q
  · exact RZ.nextOf_tuple_item a b e q
theorem nx_end {t : Bool} {i l : Addr} {k : Nat} {xs : Array Value} {Q : Value → Shared → Prop} (hd : A.handled = none) (a : SIt t s.heap i l k) (b : SSq t s.heap l xs) (e : xs[k]? = none)
    (q : ∀ g c, Heap.ExtBut i s.heap g → (∃ o, g.get? c = some o ∧ o.cls = .type "StopIteration") → E (.ref c) { s with heap := g }) : wpAny (model prog w) A (Builtin.SmallTypes.nextOf (.ref i)) Q E s := by
  cases t
  · exact wpAny_nextOf_list_end hd a b e q
  · exact RZ.nextOf_tuple_end hd a b e q
theorem zx_item {t u : Bool} {z TI TO i j l m : Addr} {k n : Nat} {xs ys : Array Value} {x y v0 v1 : Value} {Q : Value → Shared → Prop} (D : ZipApart z TI TO i j l m)
    (a0 : IsZip s.heap z TI TO .none) (a1 : IsPair s.heap TI (.ref i) (.ref j)) (a2 : IsPair s.heap TO v0 v1)
    (b1 : SIt t s.heap i l k) (b2 : SIt u s.heap j m n) (c1 : SSq t s.heap l xs) (c2 : SSq u s.heap m ys) (ex : xs[k]? = some x) (ey : ys[n]? = some y)
    (q : ∀ g, IsZip g z TI TO (rawInt s.heap.objs.size) → IsPair g TO x y → SIt t g i l (k + 1) → SIt u g j m (n + 1) → IsPair g s.heap.objs.size x y → g.objs.size = s.heap.objs.size + 1 →
      (∀ c o, c ≠ z → c ≠ TO → c ≠ i → c ≠ j → s.heap.get? c = some o → g.get? c = some o) → Q (.ref s.heap.objs.size) { s with heap := g }) :
    wpAny (model prog w) A (Builtin.«zip.__next__» ⟨[.ref z], []⟩) (fun fin s' => ∃ v, fin = .done (.ret v) ∧ Q v s') E s := by
  show wpAny _ _ (field (.ref z) 2 >>= _) _ _ _; refine wpAny_bind (wpAny_field a0 rfl (x := .bool false) rfl ?_)
  show wpAny _ _ (field (.ref z) 3 >>= _) _ _ _; refine wpAny_bind (wpAny_field a0 rfl (x := .ref TI) rfl (wpAny_bind (wpAny_seqItems a1 rfl ?_)))
  show wpAny _ _ (Builtin.SmallTypes.ownedTupleIsFree (.ref z) >>= _) _ _ _; refine wpAny_bind ?_
  unfold Builtin.SmallTypes.ownedTupleIsFree; refine wpAny_bind (wpAny_field a0 rfl (x := .none) rfl (wpAny_pure ?_))
  simp only [if_true]; refine wpAny_bind (wpAny_rule (wpAny_bind (wpAny_field a0 rfl (x := .ref TO) rfl ?_)))
  refine wpAny_bind (wpAny_setField_rec a0 (by simp) fun g1 y1 s1 => ?_)
  have Z1 : IsZip g1 z TI TO .ellipsis := y1
  refine wpAny_bind ?_; simp only [List.zipIdx_cons, List.zipIdx_nil, List.forIn_cons, List.forIn_nil]
  refine wpAny_bind (wpAny_bind (wpAny_onRaise ?_)); show wpAny _ _ (Builtin.SmallTypes.nextOf (.ref i) >>= _) _ _ _
  refine wpAny_bind (nx_item (b1.off s1.extBut D.i1z) (c1.off s1.extBut D.l1z) ex fun g2 B1 s2 => wpAny_pure ?_)
  have O2 : IsPair g2 TO v0 v1 := s2.extBut _ _ D.TOi1 (s1.extBut _ _ D.TOz a2)
  refine wpAny_bind (wpAny_seqItems O2 rfl (wpAny_bind (wpAny_updateSeq_pair O2 fun g3 y3 s3 => ?_)))
  have O3 : IsPair g3 TO x v1 := y3
  refine wpAny_bind (wpAny_letGo (wpAny_pure (wpAny_bind (wpAny_bind (wpAny_onRaise ?_))))); show wpAny _ _ (Builtin.SmallTypes.nextOf (.ref j) >>= _) _ _ _
  refine wpAny_bind (nx_item (((b2.off s1.extBut D.i2z).off s2.extBut D.i12.symm).off s3.extBut D.TOi2.symm) (((c2.off s1.extBut D.l2z).off s2.extBut D.l2i1).off s3.extBut D.l2TO) ey fun g4 B2 s4 => wpAny_pure ?_)
  have O4 : IsPair g4 TO x v1 := s4.extBut _ _ D.TOi2 O3
  refine wpAny_bind (wpAny_seqItems O4 rfl (wpAny_bind (wpAny_updateSeq_pair O4 fun g5 y5 s5 => ?_)))
  have O5 : IsPair g5 TO x y := y5
  refine wpAny_bind (wpAny_letGo (wpAny_pure (wpAny_pure (wpAny_bind (wpAny_seqItems O5 rfl (wpAny_bind (wpAny_newTuple ?_)))))))
  have size : g5.objs.size = s.heap.objs.size := by rw [s5.1, s4.1, s3.1, s2.1, s1.1]
  have Z5 : IsZip g5 z TI TO .ellipsis := s5.extBut _ _ D.TOz.symm (s4.extBut _ _ D.i2z.symm (s3.extBut _ _ D.TOz.symm (s2.extBut _ _ D.i1z.symm Z1)))
  have keep : ∀ c o, c ≠ z → c ≠ TO → c ≠ i → c ≠ j → s.heap.get? c = some o → g5.get? c = some o := fun c o n1 n2 n3 n4 e => s5.extBut _ _ n2 (s4.extBut _ _ n4 (s3.extBut _ _ n2 (s2.extBut _ _ n3 (s1.extBut _ _ n1 e))))
  have B15 : SIt t g5 i l (k + 1) := ((B1.off s3.extBut D.TOi1.symm).off s4.extBut D.i12).off s5.extBut D.TOi1.symm
  have B25 : SIt u g5 j m (n + 1) := B2.off s5.extBut D.TOi2.symm
  have zl : z < g5.objs.size := Heap.lt_size Z5
  show wpAny _ _ (Builtin.SmallTypes.ownedTupleHandOut (.ref z) (.ref g5.objs.size) >>= _) _ _ _
  refine wpAny_bind ?_; unfold Builtin.SmallTypes.ownedTupleHandOut
  have Z6 : IsZip (g5.push { cls := .type "tuple", data := .seq #[x, y] }) z TI TO .ellipsis := Heap.get?_push_of_some _ Z5
  refine wpAny_bind (wpAny_setField_rec Z6 (by simp) fun g7 y7 s7 => ?_)
  have Z7 : IsZip g7 z TI TO (rawInt g5.objs.size) := y7
  refine wpAny_setField_rec Z7 (by simp) fun g8 y8 s8 => ?_
  have Z8 : IsZip g8 z TI TO (rawInt g5.objs.size) := y8
  have lift : ∀ c o, c ≠ z → g5.get? c = some o → g8.get? c = some o := fun c o n1 e => s8.extBut _ _ n1 (s7.extBut _ _ n1 (Heap.get?_push_of_some _ e))
  have T8 : IsPair g8 g5.objs.size x y := s8.extBut _ _ (Nat.ne_of_gt zl) (s7.extBut _ _ (Nat.ne_of_gt zl) (Heap.get?_push_size _ rfl))
  have size8 : g8.objs.size = g5.objs.size + 1 := by rw [s8.1, s7.1, Heap.size_push]
  rw [size] at Z8 T8 size8
  refine wpAny_pure ⟨_, rfl, ?_⟩
  show Q (.ref g5.objs.size) _; rw [size]
  exact q g8 Z8 (lift _ _ D.TOz O5) (B15.to fun o e => lift _ o D.i1z e) (B25.to fun o e => lift _ o D.i2z e) T8 size8 fun c o n1 n2 n3 n4 e => lift c o n1 (keep c o n1 n2 n3 n4 e)
theorem zx_end {t u : Bool} {z TI TO i j l m : Addr} {k n : Nat} {xs ys : Array Value} {v0 v1 : Value} {Q : Fin → Shared → Prop} (hd : A.handled = none) (D : ZipApart z TI TO i j l m)
    (a0 : IsZip s.heap z TI TO .none) (a1 : IsPair s.heap TI (.ref i) (.ref j)) (a2 : IsPair s.heap TO v0 v1)
    (b1 : SIt t s.heap i l k) (b2 : SIt u s.heap j m n) (c1 : SSq t s.heap l xs) (c2 : SSq u s.heap m ys) (over : xs[k]? = none ∨ ys[n]? = none)
    (q : ∀ g c, (∀ c o, c ≠ z → c ≠ TO → c ≠ i → c ≠ j → s.heap.get? c = some o → g.get? c = some o) → (∃ o, g.get? c = some o ∧ o.cls = .type "StopIteration") → E (.ref c) { s with heap := g }) :
    wpAny (model prog w) A (Builtin.«zip.__next__» ⟨[.ref z], []⟩) Q E s := by
  show wpAny _ _ (field (.ref z) 2 >>= _) _ _ _; refine wpAny_bind (wpAny_field a0 rfl (x := .bool false) rfl ?_)
  show wpAny _ _ (field (.ref z) 3 >>= _) _ _ _; refine wpAny_bind (wpAny_field a0 rfl (x := .ref TI) rfl (wpAny_bind (wpAny_seqItems a1 rfl ?_)))
  show wpAny _ _ (Builtin.SmallTypes.ownedTupleIsFree (.ref z) >>= _) _ _ _; refine wpAny_bind ?_
  unfold Builtin.SmallTypes.ownedTupleIsFree; refine wpAny_bind (wpAny_field a0 rfl (x := .none) rfl (wpAny_pure ?_))
  simp only [if_true]; refine wpAny_bind (wpAny_rule (wpAny_bind (wpAny_field a0 rfl (x := .ref TO) rfl ?_)))
  refine wpAny_bind (wpAny_setField_rec a0 (by simp) fun g1 y1 s1 => ?_)
  have Z1 : IsZip g1 z TI TO .ellipsis := y1
  refine wpAny_bind ?_; simp only [List.zipIdx_cons, List.zipIdx_nil, List.forIn_cons, List.forIn_nil]
  refine wpAny_bind (wpAny_bind (wpAny_onRaise ?_)); show wpAny _ _ (Builtin.SmallTypes.nextOf (.ref i) >>= _) _ _ _
  cases ex : xs[k]? with
  | none =>
    refine wpAny_bind (nx_end hd (b1.off s1.extBut D.i1z) (c1.off s1.extBut D.l1z) ex fun g2 c s2 hc => ?_)
    obtain ⟨o, ho, hcl⟩ := hc
    have Z2 : IsZip g2 z TI TO .ellipsis := s2 _ _ D.i1z.symm Z1
    have ne : c ≠ z := fun w => by subst w; rw [Z2] at ho; cases ho; simp at hcl
    exact wpAny_setField_rec Z2 (by simp) fun g3 _ s3 => q g3 c (fun c o n1 _ n3 _ e => s3.extBut _ _ n1 (s2 _ _ n3 (s1.extBut _ _ n1 e))) ⟨o, s3.extBut _ _ ne ho, hcl⟩
  | some x =>
    have ey : ys[n]? = none := over.resolve_left (by rw [ex]; exact nofun)
    refine wpAny_bind (nx_item (b1.off s1.extBut D.i1z) (c1.off s1.extBut D.l1z) ex fun g2 B1 s2 => wpAny_pure ?_)
    have O2 : IsPair g2 TO v0 v1 := s2.extBut _ _ D.TOi1 (s1.extBut _ _ D.TOz a2)
    refine wpAny_bind (wpAny_seqItems O2 rfl (wpAny_bind (wpAny_updateSeq_pair O2 fun g3 y3 s3 => ?_)))
    refine wpAny_bind (wpAny_letGo (wpAny_pure (wpAny_bind (wpAny_bind (wpAny_onRaise ?_))))); show wpAny _ _ (Builtin.SmallTypes.nextOf (.ref j) >>= _) _ _ _
    refine wpAny_bind (nx_end hd (((b2.off s1.extBut D.i2z).off s2.extBut D.i12.symm).off s3.extBut D.TOi2.symm) (((c2.off s1.extBut D.l2z).off s2.extBut D.l2i1).off s3.extBut D.l2TO) ey fun g4 c s4 hc => ?_)
    obtain ⟨o, ho, hcl⟩ := hc
    have Z4 : IsZip g4 z TI TO .ellipsis := s4 _ _ D.i2z.symm (s3.extBut _ _ D.TOz.symm (s2.extBut _ _ D.i1z.symm Z1))
    have ne : c ≠ z := fun w => by subst w; rw [Z4] at ho; cases ho; simp at hcl
    exact wpAny_setField_rec Z4 (by simp) fun g5 _ s5 => q g5 c (fun c o n1 n2 n3 n4 e => s5.extBut _ _ n1 (s4 _ _ n4 (s3.extBut _ _ n2 (s2.extBut _ _ n3 (s1.extBut _ _ n1 e))))) ⟨o, s5.extBut _ _ ne ho, hcl⟩
theorem pz_item {t u : Bool} {z TI TO i j l m : Addr} {k n : Nat} {xs ys : Array Value} {x y v0 v1 : Value} {Q : Option Value → Shared → Prop} (D : ZipApart z TI TO i j l m)
    (a0 : IsZip s.heap z TI TO .none) (a1 : IsPair s.heap TI (.ref i) (.ref j)) (a2 : IsPair s.heap TO v0 v1)
    (b1 : SIt t s.heap i l k) (b2 : SIt u s.heap j m n) (c1 : SSq t s.heap l xs) (c2 : SSq u s.heap m ys) (ex : xs[k]? = some x) (ey : ys[n]? = some y)
    (q : ∀ g, IsZip g z TI TO (rawInt s.heap.objs.size) → IsPair g TO x y → SIt t g i l (k + 1) → SIt u g j m (n + 1) → IsPair g s.heap.objs.size x y → g.objs.size = s.heap.objs.size + 1 →
      (∀ c o, c ≠ z → c ≠ TO → c ≠ i → c ≠ j → s.heap.get? c = some o → g.get? c = some o) → Q (some (.ref s.heap.objs.size)) { s with heap := g }) : wpAny (model prog w) A (pyNext (.ref z)) Q E s := by
  have ty : s.TypeIs (.ref z) "zip" := ⟨_, a0, rfl⟩
  unfold pyNext
  exact wpAny_bind (wpAny_attempt (wpAny_callSpecial?_slot (name := Str.ofString "__next__") ty F.slot_zip_next (wpAny_call_entry F.slot_zip_next ty F.entry_zip_next
    (zx_item D a0 a1 a2 b1 b2 c1 c2 ex ey fun g p1 p2 p3 p4 p5 p6 p7 => wpAny_pure (q g p1 p2 p3 p4 p5 p6 p7)) (F.args_zip_next_1 _))))
theorem pz_end {t u : Bool} {z TI TO i j l m : Addr} {k n : Nat} {xs ys : Array Value} {v0 v1 : Value} {Q : Option Value → Shared → Prop} (hd : A.handled = none) (D : ZipApart z TI TO i j l m)
    (a0 : IsZip s.heap z TI TO .none) (a1 : IsPair s.heap TI (.ref i) (.ref j)) (a2 : IsPair s.heap TO v0 v1)
    (b1 : SIt t s.heap i l k) (b2 : SIt u s.heap j m n) (c1 : SSq t s.heap l xs) (c2 : SSq u s.heap m ys) (over : xs[k]? = none ∨ ys[n]? = none)
    (q : ∀ g, (∀ c o, c ≠ z → c ≠ TO → c ≠ i → c ≠ j → s.heap.get? c = some o → g.get? c = some o) → Q none { s with heap := g }) : wpAny (model prog w) A (pyNext (.ref z)) Q E s := by
  have ty : s.TypeIs (.ref z) "zip" := ⟨_, a0, rfl⟩
  unfold pyNext
  refine wpAny_bind (wpAny_attempt (wpAny_callSpecial?_slot (name := Str.ofString "__next__") ty F.slot_zip_next (wpAny_call_entry F.slot_zip_next ty F.entry_zip_next (zx_end hd D a0 a1 a2 b1 b2 c1 c2 over fun g c kp hc => ?_) (F.args_zip_next_1 _))))
  obtain ⟨o, ho, hcl⟩ := hc
  exact wpAny_bind (wpAny_isInstance (T := "StopIteration") (b := true) ⟨o, ho, hcl⟩ isSubtype_stop (wpAny_pure (q _ kp)))
end
/-! ### zip(..) is made -/
def itO (t : Bool) (l : Addr) : Obj := { cls := .type (if t = true then "tuple_iterator" else "list_iterator"), data := .fields #[.ref l, .int 0 0] }
def zG1 (t : Bool) (h : Heap) (l : Addr) : Heap := h.push (itO t l)
def zG2 (t u : Bool) (h : Heap) (l m : Addr) : Heap := (zG1 t h l).push (itO u m)
def zG3 (t u : Bool) (h : Heap) (l m : Addr) : Heap := (zG2 t u h l m).push { cls := .type "tuple", data := .seq #[.ref h.objs.size, .ref (zG1 t h l).objs.size] }
def zG4 (t u : Bool) (h : Heap) (l m : Addr) : Heap := (zG3 t u h l m).push { cls := .type "tuple", data := .seq #[.none, .none] }
def zG5 (t u : Bool) (h : Heap) (l m : Addr) : Heap := (zG4 t u h l m).push { cls := .type "zip", data := .fields #[.none, .bool false, .bool false, .ref (zG2 t u h l m).objs.size, .ref (zG3 t u h l m).objs.size] }
theorem zx_new (t u : Bool) (l m : Addr) (xs ys : Array Value) :
    Meets (Builtin.«zip.__new__» ⟨[.type "zip", .ref l, .ref m], []⟩) (fun _ R s => SSq t s.heap l xs ∧ SSq u s.heap m ys ∧ R (.ok (.ret (.ref (zG4 t u s.heap l m).objs.size))) { s with heap := zG5 t u s.heap l m }) := by
  cases t <;> cases u
  · refine .of_wp fun prog w A R s h => ?_
    obtain ⟨hp, gs, dx, tk, os⟩ := s
    obtain ⟨e1, e2, q⟩ := h
    have sb := sub_zip
    have f1 : Heap.IsList (Shared.heap ⟨hp, gs, dx, tk, os⟩) l xs := e1
    have f2 : Heap.IsList (Shared.heap ⟨hp.push { cls := .type "list_iterator", data := .fields #[.ref l, .int 0 0] }, gs, dx, tk, os⟩) m ys := Heap.IsList.push (show hp.IsList m ys from e2) _
    wp_walk using wpAny_pyIter_list f1, wpAny_pyIter_list f2
    exact ⟨_, rfl, q⟩
  · refine .of_wp fun prog w A R s h => ?_
    obtain ⟨hp, gs, dx, tk, os⟩ := s
    obtain ⟨e1, e2, q⟩ := h
    have sb := sub_zip
    have f1 : Heap.IsList (Shared.heap ⟨hp, gs, dx, tk, os⟩) l xs := e1
    have f2 : Heap.IsTuple (Shared.heap ⟨hp.push { cls := .type "list_iterator", data := .fields #[.ref l, .int 0 0] }, gs, dx, tk, os⟩) m ys := Heap.IsTuple.push (show hp.IsTuple m ys from e2) _
    wp_walk using wpAny_pyIter_list f1, wpAny_pyIter_tuple f2
    exact ⟨_, rfl, q⟩
  · refine .of_wp fun prog w A R s h => ?_
    obtain ⟨hp, gs, dx, tk, os⟩ := s
    obtain ⟨e1, e2, q⟩ := h
    have sb := sub_zip
    have f1 : Heap.IsTuple (Shared.heap ⟨hp, gs, dx, tk, os⟩) l xs := e1
    have f2 : Heap.IsList (Shared.heap ⟨hp.push { cls := .type "tuple_iterator", data := .fields #[.ref l, .int 0 0] }, gs, dx, tk, os⟩) m ys := Heap.IsList.push (show hp.IsList m ys from e2) _
    wp_walk using wpAny_pyIter_tuple f1, wpAny_pyIter_list f2
    exact ⟨_, rfl, q⟩
  · refine .of_wp fun prog w A R s h => ?_
    obtain ⟨hp, gs, dx, tk, os⟩ := s
    obtain ⟨e1, e2, q⟩ := h
    have sb := sub_zip
    have f1 : Heap.IsTuple (Shared.heap ⟨hp, gs, dx, tk, os⟩) l xs := e1
    have f2 : Heap.IsTuple (Shared.heap ⟨hp.push { cls := .type "tuple_iterator", data := .fields #[.ref l, .int 0 0] }, gs, dx, tk, os⟩) m ys := Heap.IsTuple.push (show hp.IsTuple m ys from e2) _
    wp_walk using wpAny_pyIter_tuple f1, wpAny_pyIter_tuple f2
    exact ⟨_, rfl, q⟩
theorem itO_it {t : Bool} {h : Heap} {i l : Addr} (e : h.get? i = some (itO t l)) : SIt t h i l 0 := by
  cases t
  · exact ⟨_, e, rfl, rfl⟩
  · exact ⟨_, e, rfl, rfl⟩
theorem itO_live {t : Bool} {l : Addr} : (itO t l).isFreed = false := by cases t <;> rfl
theorem zx_call {prog : Program} {w : World} {A : Around} {E : Value → Shared → Prop} {s : Shared} {t u : Bool} {l m : Addr} {xs ys : Array Value} {Q : Value → Shared → Prop} (c1 : SSq t s.heap l xs) (c2 : SSq u s.heap m ys)
    (q : ∀ g, IsZip g (s.heap.objs.size + 4) (s.heap.objs.size + 2) (s.heap.objs.size + 3) .none → IsPair g (s.heap.objs.size + 2) (.ref s.heap.objs.size) (.ref (s.heap.objs.size + 1)) → IsPair g (s.heap.objs.size + 3) .none .none →
      SIt t g s.heap.objs.size l 0 → SIt u g (s.heap.objs.size + 1) m 0 → g.objs.size = s.heap.objs.size + 5 → (∀ c o, s.heap.get? c = some o → g.get? c = some o) → Q (.ref (s.heap.objs.size + 4)) { s with heap := g }) :
    wpAny (model prog w) A (call (.type "zip") [.ref l, .ref m]) Q E s := by
  refine callType_new F.called_zip (by decide) (F.typeCall_zip_2 _ _) (F.newCall_zip_2 _ _) (fun o => F.args_object_init_3 o _ _) F.entry_zip_new (zx_new t u l m xs ys) ⟨c1, c2, ?_⟩
  have n1 : (zG1 t s.heap l).objs.size = s.heap.objs.size + 1 := Heap.size_push ..
  have n2 : (zG2 t u s.heap l m).objs.size = s.heap.objs.size + 2 := (Heap.size_push ..).trans (congrArg (· + 1) n1)
  have n3 : (zG3 t u s.heap l m).objs.size = s.heap.objs.size + 3 := (Heap.size_push ..).trans (congrArg (· + 1) n2)
  have n4 : (zG4 t u s.heap l m).objs.size = s.heap.objs.size + 4 := (Heap.size_push ..).trans (congrArg (· + 1) n3)
  have n5 : (zG5 t u s.heap l m).objs.size = s.heap.objs.size + 5 := (Heap.size_push ..).trans (congrArg (· + 1) n4)
  have k4 : ∀ c o, (zG4 t u s.heap l m).get? c = some o → (zG5 t u s.heap l m).get? c = some o := fun c o e => Heap.get?_push_of_some _ e
  have k3 : ∀ c o, (zG3 t u s.heap l m).get? c = some o → (zG5 t u s.heap l m).get? c = some o := fun c o e => k4 c o (Heap.get?_push_of_some _ e)
  have k2 : ∀ c o, (zG2 t u s.heap l m).get? c = some o → (zG5 t u s.heap l m).get? c = some o := fun c o e => k3 c o (Heap.get?_push_of_some _ e)
  have k1 : ∀ c o, (zG1 t s.heap l).get? c = some o → (zG5 t u s.heap l m).get? c = some o := fun c o e => k2 c o (Heap.get?_push_of_some _ e)
  have w5 : (zG5 t u s.heap l m).get? (zG4 t u s.heap l m).objs.size = some _ := Heap.get?_push_size _ rfl
  have w4 : (zG5 t u s.heap l m).get? (zG3 t u s.heap l m).objs.size = some _ := k4 _ _ (Heap.get?_push_size _ rfl)
  have w3 : (zG5 t u s.heap l m).get? (zG2 t u s.heap l m).objs.size = some _ := k3 _ _ (Heap.get?_push_size _ rfl)
  have w2 : (zG5 t u s.heap l m).get? (zG1 t s.heap l).objs.size = some _ := k2 _ _ (Heap.get?_push_size _ itO_live)
  have w1 : (zG5 t u s.heap l m).get? s.heap.objs.size = some _ := k1 _ _ (Heap.get?_push_size _ itO_live)
  rw [n4, n2, n3] at w5
  rw [n3] at w4
  rw [n2, n1] at w3
  rw [n1] at w2
  show _ ∧ _
  rw [n4]
  exact ⟨⟨_, w5, rfl⟩, q _ w5 w3 w4 (itO_it w1) (itO_it w2) n5 fun c o e => k1 c o (Heap.get?_push_of_some _ e)⟩
/-! ### what zip walks -/
theorem sq_its {X : Cx} {pins : List (Addr × Obj)} {σ : L2.St} {H : Hp} {s : Shared} {t : Bool} {a : Addr} {xs : List V} (I : Inv X pins σ H s) (q : SqB X.K t H a xs) : ∃ its, Vals xs its ∧ SSq t s.heap a its.toArray := by
  cases t
  · obtain ⟨its, rv, p, _⟩ := I.list (show SqL X.K H a xs from q)
    exact ⟨its, rv, p.isList⟩
  · obtain ⟨its, rv, p, _⟩ := I.tuple (show SqT X.K H a xs from q)
    exact ⟨its, rv, show s.heap.IsTuple a its.toArray from p⟩
theorem sq_inj {X : Cx} {pins : List (Addr × Obj)} {σ : L2.St} {H : Hp} {s : Shared} {t : Bool} {a : Addr} {xs ys : List V} (I : Inv X pins σ H s) (q : SqB X.K t H a xs) (r : SqB X.K t H a ys) : xs = ys := by
  cases t
  · exact I.list_inj (show SqL X.K H a xs from q) r
  · exact I.tuple_inj (show SqT X.K H a xs from q) r
/-- the items at a and at b as they stand at each turn, in new pairs -/
def ItzB (K : PySem.W.Frag) (t u : Bool) (a b : Addr) : It where
  go := fun i H => ∃ (xs ys : List V) (x y : V), SqB K t H a xs ∧ SqB K u H b ys ∧ xs[i]? = some x ∧ ys[i]? = some y
  yld := fun i H v H' => ∃ T x y, v = .ref T ∧ H T = none ∧ H' = upd H T (.tup [x, y]) ∧ (∀ xs, SqB K t H a xs → xs[i]? = some x) ∧ ∀ ys, SqB K u H b ys → ys[i]? = some y
  stop := fun i H => ∃ xs ys : List V, SqB K t H a xs ∧ SqB K u H b ys ∧ (xs.length ≤ i ∨ ys.length ≤ i)
theorem five {c z TI TO i j : Addr} (h : c ∈ [z, TI, TO, i, j]) : c = z ∨ c = TI ∨ c = TO ∨ c = i ∨ c = j := by simpa using h
theorem turn_zx {P : Program} {w : World} {K : PySem.W.Frag} {es : List Expr} {cx : Nat} {tp : Pos} {t u : Bool} {a b z TI TO i j : Addr} (D : ZipApart z TI TO i j a b) :
    Turn P w K (.Tuple es cx tp) (ItzB K t u a b) [z, TI, TO, i, j] z (fun k h => IsZip h z TI TO .none ∧ IsPair h TI (.ref i) (.ref j) ∧ (∃ x y, IsPair h TO x y) ∧ SIt t h i a k ∧ SIt u h j b k) := by
  have off : ∀ {c : Addr} {h h' : Heap}, (∀ c o, c ≠ z → c ≠ TO → c ≠ i → c ≠ j → h.get? c = some o → h'.get? c = some o) → ∀ o, c ∉ [z, TI, TO, i, j] → h.get? c = some o → h'.get? c = some o := fun k o n e =>
    k _ o (fun w => n (by simp [w])) (fun w => n (by simp [w])) (fun w => n (by simp [w])) (fun w => n (by simp [w])) e
  constructor
  · simp
  · rintro k h ⟨a0, a1, ⟨x, y, a2⟩, b1, b2⟩ c hc
    obtain ⟨o1, e1, _, d1⟩ := b1.ob
    obtain ⟨o2, e2, _, d2⟩ := b2.ob
    rcases five hc with rfl | rfl | rfl | rfl | rfl
    · exact ⟨_, a0, nofun⟩
    · exact ⟨_, a1, nofun⟩
    · exact ⟨_, a2, nofun⟩
    · exact ⟨o1, e1, fun v e => by rw [d1] at e; cases e⟩
    · exact ⟨o2, e2, fun v e => by rw [d2] at e; cases e⟩
  · rintro k h h' ⟨a0, a1, ⟨x, y, a2⟩, b1, b2⟩ kp
    exact ⟨kp z (by simp) _ a0, kp TI (by simp) _ a1, ⟨x, y, kp TO (by simp) _ a2⟩, b1.to (kp i (by simp)), b2.to (kp j (by simp))⟩
  · intro X hP hw hK hc k pins s σ H E I hf st hg
    subst hP hw hK
    obtain ⟨a0, a1, ⟨v0, v1, a2⟩, b1, b2⟩ := st
    obtain ⟨xs, ys, x, y, qx, qy, ex, ey⟩ := hg
    obtain ⟨its, rv, p⟩ := sq_its I qx
    obtain ⟨jts, rw', p'⟩ := sq_its I qy
    obtain ⟨v, ev, r1⟩ := rv.get ex
    obtain ⟨v', ev', r2⟩ := rw'.get ey
    have zl : z < s.heap.objs.size := Heap.lt_size a0
    refine pz_item D a0 a1 a2 b1 b2 p p' (x := v) (y := v') (by simpa using ev) (by simpa using ev') fun g z' O' c1 c2 hT _ kp => ?_
    refine ⟨_, rfl, wpAny_letOwnedTupleGo_zip (s := { s with heap := g }) z' fun g2 z2 sb => ?_⟩
    have T2 : g2.get? s.heap.objs.size = some { cls := .type "tuple", data := .seq #[v, v'] } := (sb.2 _ (Nat.ne_of_gt zl)).trans hT
    have fresh : ObjOk X.prog X.w (upd H s.heap.objs.size (.tup [x, y])) g2 s.heap.objs.size (.tup [x, y]) := ⟨by show 2 ≤ sizeLine; decide, [v, v'], .cons r1 (.cons r2 .nil), ⟨_, T2, rfl, _, rfl⟩⟩
    have I1 : Inv X pins σ (upd H s.heap.objs.size (.tup [x, y])) { s with heap := g2 } :=
      I.turnedNew (t' := s.toks) (ch := [z, TI, TO, i, j]) (fun c o n e => (sb.2 c (fun w => n (by simp [w]))).trans (off kp o n e)) hf (Nat.le_refl _) fresh
    refine ⟨.ref s.heap.objs.size, _, I1, rfl, ⟨_, x, y, rfl, I.hok.fresh (Nat.le_refl _), rfl, fun l hl => by rw [sq_inj I hl qx]; exact ex, fun l hl => by rw [sq_inj I hl qy]; exact ey⟩, ⟨z2, ?_, ⟨v, v', ?_⟩, ?_, ?_⟩, fun c hc => ?_⟩
    · exact (sb.2 _ D.TIz).trans (kp _ _ D.TIz D.TITO D.TIi1 D.TIi2 a1)
    · exact (sb.2 _ D.TOz).trans O'
    · exact c1.to fun o e => (sb.2 _ D.i1z).trans e
    · exact c2.to fun o e => (sb.2 _ D.i2z).trans e
    · have lt : c < s.heap.objs.size := by
        rcases five hc with rfl | rfl | rfl | rfl | rfl
        · exact zl
        · exact Heap.lt_size a1
        · exact Heap.lt_size a2
        · exact b1.lt
        · exact b2.lt
      rw [upd_ne (Nat.ne_of_lt lt)]
      exact (hf c hc).1
  · intro X hP hw hK hc k pins s σ H E I hf st hg
    subst hP hw hK
    obtain ⟨a0, a1, ⟨v0, v1, a2⟩, b1, b2⟩ := st
    obtain ⟨xs, ys, qx, qy, over⟩ := hg
    obtain ⟨its, rv, p⟩ := sq_its I qx
    obtain ⟨jts, rw', p'⟩ := sq_its I qy
    have n1 := rv.length
    have n2 := rw'.length
    have ov : its.toArray[k]? = none ∨ jts.toArray[k]? = none := over.elim (fun w => .inl (by simp; omega)) (fun w => .inr (by simp; omega))
    exact pz_end (I.ok.hd hc) D a0 a1 a2 b1 b2 p p' ov fun g kp => ⟨rfl, I.turnedL (t' := s.toks) (ch := [z, TI, TO, i, j]) (fun c o n e => off kp o n e) hf⟩
  · exact fun A k s Q E st q => wpAny_pyIter_zip st.1 q
def iZipB (K : PySem.W.Frag) (ta : TA) : TI := fun σ H R => ta σ H fun vs H1 => ∃ (t u : Bool) (a b : Addr) (xs ys : List V), vs = [.ref a, .ref b] ∧ SqB K t H1 a xs ∧ SqB K u H1 b ys ∧ R (ItzB K t u a b) H1
theorem pi_zx {X : Cx} {e e2 : Expr} {ta : TA} {p pos tp : Pos} {es : List Expr} {cx : Nat} (hg : Gl X "zip") (hm : X.mg "zip" = none) (ha : PA X [e, e2] ta)
    (hs : starEach [e, e2] X.env = (false, eval e X.env) :: starEach [e2] X.env := by rfl) (hp : (backTo pos (starEach [e2] X.env)).any (·.1) = false := by rfl) : PI X (.Tuple es cx tp) (.Call (.Name "zip" p) [e, e2] [] pos) (iZipB X.K ta) := by
  refine ⟨fun pins s σ H R I h => Call_ (ld_blt I hg hm boot_zip (callWith_type1 (thn (ha.run pos pins s σ H _ I h) fun us s1 ⟨vs, H1, I1, r1, q1⟩ => ?_) hs hp))⟩
  obtain ⟨t, u, a, b, xs, ys, rfl, qx, qy, q⟩ := q1
  cases r1 with
  | cons r rr =>
    cases rr with
    | cons r' rr =>
      cases rr
      cases r
      cases r'
      obtain ⟨its, rv, p1⟩ := sq_its I1 qx
      obtain ⟨jts, rw', p2⟩ := sq_its I1 qy
      refine zx_call p1 p2 fun g z0 w1 w2 w3 w4 _ kp => wpAny_pyIter_zip z0 ?_
      refine ⟨s1.heap.objs.size + 4, [s1.heap.objs.size + 4, s1.heap.objs.size + 2, s1.heap.objs.size + 3, s1.heap.objs.size, s1.heap.objs.size + 1], _, _, H1, rfl, I1.kept (t' := s1.toks) kp, turn_zx (PySem.W.ktu_apart s1.heap.objs.size a b p1.lt p2.lt), ⟨z0, w1, ⟨_, _, w2⟩, w3, w4⟩, fun c hc => ?_, q⟩
      have le : s1.heap.objs.size ≤ c := by rcases five hc with rfl | rfl | rfl | rfl | rfl <;> omega
      exact I1.fpOk le (I1.hok.fresh le)
/-- zip(a, b): both never change -/
def zipA : List AV → List AV → List AV
  | x :: l, y :: m => .tup [x, y] :: zipA l m
  | _, _ => []
def iZp (a : MA) : MI := fun ρ h => match a ρ h with
  | .bad => .bad
  | .exc x h1 => .exc x h1
  | .ok [x, y] h1 => (match frzL x, frzL y with
    | some l, some m => .ok (zipA l m) h1
    | _, _ => .bad)
  | .ok _ _ => .bad
theorem zipA_get : ∀ {l m : List AV} {i : Nat} {z : AV}, (zipA l m)[i]? = some z → ∃ x y, l[i]? = some x ∧ m[i]? = some y ∧ z = .tup [x, y]
  | [], _, _, _, e => by
    rw [show zipA [] _ = [] by unfold zipA; rfl] at e
    cases e
  | _ :: _, [], _, _, e => by
    rw [show zipA (_ :: _) [] = [] from rfl] at e
    cases e
  | x :: l, y :: m, 0, z, e => by
    have e' : some (AV.tup [x, y]) = some z := e
    cases e'
    exact ⟨x, y, rfl, rfl, rfl⟩
  | x :: l, y :: m, i + 1, z, e => zipA_get (l := l) (m := m) (i := i) e
theorem zipA_len : ∀ (l m : List AV), l.length ≤ (zipA l m).length ∨ m.length ≤ (zipA l m).length
  | [], _ => .inl (Nat.zero_le _)
  | _ :: _, [] => .inr (Nat.zero_le _)
  | x :: l, y :: m => by
    rcases zipA_len l m with z | z
    · left
      show l.length + 1 ≤ (zipA l m).length + 1
      omega
    · right
      show m.length + 1 ≤ (zipA l m).length + 1
      omega
theorem frz_sq {K : PySem.W.Frag} {H : Hp} {h : AHeap} {G : Hp} {μ : List Addr} {x : AV} {v : V} {l : List AV} (rh : RelH K H h G μ) (r : R K μ G x v) (e : frzL x = some l) : ∃ t a vs, v = .ref a ∧ RL K μ G l vs ∧ SqB K t G a vs := by
  cases x with
  | tup m =>
    cases e
    obtain ⟨a, vs, ea, sa, ra⟩ := r
    exact ⟨true, a, vs, ea, ra, sa⟩
  | lst m =>
    cases e
    obtain ⟨a, vs, ea, sa, ra⟩ := r
    exact ⟨false, a, vs, ea, ra, SqL.of sa⟩
  | lstR m =>
    cases e
    obtain ⟨a, vs, ea, sa, ra⟩ := r
    exact ⟨false, a, vs, ea, ra, sa⟩
  | _ => cases e
theorem sqB_same {K : PySem.W.Frag} {t : Bool} {G H : Hp} {a : Addr} {vs : List V} (s : Same G H) (q : SqB K t G a vs) : SqB K t H a vs := by
  cases t
  · exact s.seq (show SqL K G a vs from q)
  · exact same_sqT s (show SqT K G a vs from q)
end Mi

set_option maxRecDepth 100000
set_option maxHeartbeats 4000000
/-! The rule of zip. -/
namespace Mi
open PySem PySem.Spec PyProof.Rows L2
section
variable {K : PySem.W.Frag} {W : WX2} {ta : TA} {ma : MA}
theorem walks_zip {t u : Bool} {a b : Addr} {vs us : List V} {l m : List AV} {G : Hp} {μ : List Addr} (s : SqB K t G a vs) (s' : SqB K u G b us) (r : RL K μ G l vs) (r' : RL K μ G m us) : Walks K (ItzB K t u a b) (zipA l m) G μ := fun H h G1 μ1 rh x => by
  have q1 : SqB K t H a vs := sqB_same rh.ex (sqB_same x.g s)
  have q2 : SqB K u H b us := sqB_same rh.ex (sqB_same x.g s')
  refine ⟨fun i d e => ?_, vs, us, q1, q2, ?_⟩
  · obtain ⟨y, z, e1, e2, rfl⟩ := zipA_get e
    obtain ⟨v, f1, f2⟩ := r.get e1
    obtain ⟨w, g1, g2⟩ := r'.get e2
    refine ⟨⟨vs, us, v, w, q1, q2, f1, g1⟩, fun o H' y' => ?_⟩
    obtain ⟨T, v', w', rfl, hT, rfl, k1, k2⟩ := y'
    have c1 := k1 vs q1
    rw [f1] at c1
    cases c1
    have c2 := k2 us q2
    rw [g1] at c2
    cases c2
    obtain ⟨n1, n2⟩ := rh.grow (o := .tup [v, w]) hT
    have x2 := x.trans n2
    exact ⟨_, n1, n2, T, [v, w], rfl, SqT.of upd_same, RL.cons (R.mono x2 f2) (RL.cons (R.mono x2 g2) RL.nil)⟩
  · rcases zipA_len l m with z | z
    · left
      rw [r.length]
      exact z
    · right
      rw [r'.length]
      exact z
theorem si_zip (ha : SimA K W ta ma) : SimI K W (iZipB K ta) (iZp ma) := fun σ H ρ h G μ rel P => by
  unfold iZp
  have A := ha σ H ρ h G μ rel
  cases ea : ma ρ h with
  | bad => trivial
  | exc z h1 =>
    rw [ea] at A
    exact A _
  | ok ds h1 =>
    rw [ea] at A
    match ds with
    | [] => trivial
    | [_] => trivial
    | _ :: _ :: _ :: _ => trivial
    | [x, y] =>
      dsimp only
      cases ex : frzL x with
      | none => trivial
      | some l =>
        cases ey : frzL y with
        | none => trivial
        | some m =>
          intro k
          refine A _ fun vs H1 G1 μ1 r1 x1 rs => ?_
          obtain ⟨v, u, rfl, rv, ru⟩ := two_inv rs
          obtain ⟨t, a, xs, rfl, ra, sa⟩ := frz_sq r1.hp rv ex
          obtain ⟨t2, b, ys, rfl, rb, sb⟩ := frz_sq r1.hp ru ey
          exact ⟨t, t2, a, b, xs, ys, rfl, sqB_same r1.hp.ex sa, sqB_same r1.hp.ex sb, k _ H1 G1 μ1 r1 x1 (walks_zip sa sb ra rb)⟩
end
section
variable {X : Cx} {W : WX2} {a b : Expr} {m : MA} {pos : Pos}
theorem im_zip {es : List Expr} {cx : Nat} {tp p : Pos} (hm : X.mg "zip" = none) (ha : PAm X W [a, b] m) (hg : Gl X "zip" := by rfl) (hs : starEach [a, b] X.env = (false, eval a X.env) :: starEach [b] X.env := by rfl) (hp : (backTo pos (starEach [b] X.env)).any (·.1) = false := by rfl) : PIm X W (.Tuple es cx tp) (.Call (.Name "zip" p) [a, b] [] pos) (iZp m) := by
  obtain ⟨t, q, s⟩ := ha.x
  exact ⟨_, pi_zx hg hm q hs hp, si_zip s⟩
end
end Mi

set_option maxRecDepth 100000
set_option maxHeartbeats 4000000
/-! Calls that know that no repr is under way. -/
namespace Mi
open PySem PySem.Spec PyProof.Rows L2
structure RG (k : Nat) (A : Around) : Prop extends Room k A where
  gd : A.guards = some []
theorem RG.mono {j k : Nat} {A : Around} (r : RG k A) (h : j ≤ k) : RG j A := ⟨r.toRoom.mono h, r.gd⟩
theorem RG.deeper {k : Nat} {A : Around} (r : RG (k + 1) A) (env : Env) : RG k (A.deeper env) := ⟨r.toRoom.deeper env, by
  have g := r.gd
  first | exact g | (simp [Around.deeper, g])⟩
theorem RG.make {k : Nat} {A : Around} (r : RG (k + 1) A) (C : Addr) (us : List Value) (kw : List (Str × Value)) : RG k (A.under (.builtin "type.__call__" ⟨.ref C :: us, kw⟩)) := ⟨r.toRoom.make C us kw, by
  have g := r.gd
  simp [Around.under, Code.guards, Code.isGuard, guardIds, pushGuards, g]⟩
/-- a def's promise where no repr is under way -/
structure FnG (P : Program) (w : World) (K : PySem.W.Frag) (mg : Str → Option Value) (base : Heap) (CX : CXT) (k : Nat) (f : Addr) (fd : FuncData) (ps : List Str) (sp : Sp) : Prop where
  len : ∀ vs H Q E, sp vs H Q E → vs.length = ps.length
  go : ∀ {A : Around} {outer : List Env} {s : Shared} {H : Hp} {args : Args} {us : List Value} {vs : List V} {Q : VK} {E : XK}, RG k A → Env0 P w K mg base A outer s H → BindsTo s fd args (ps.zip us) → Vals vs us → sp vs H Q E →
    codeAny (model P w) A (.call (.ref f) args) (CR CX outer P w H s Q E) s
theorem FnG.imp {P : Program} {w : World} {K : PySem.W.Frag} {mg : Str → Option Value} {base : Heap} {CX : CXT} {k : Nat} {f : Addr} {fd : FuncData} {ps : List Str} {sp sp' : Sp} (F : FnG P w K mg base CX k f fd ps sp) (h : ∀ vs H Q E, sp' vs H Q E → sp vs H Q E) : FnG P w K mg base CX k f fd ps sp' :=
  ⟨fun vs H Q E q => F.len vs H Q E (h _ _ _ _ q), fun r e b v q => F.go r e b v (h _ _ _ _ q)⟩
theorem FunD.okG {P : Program} {w : World} {K : PySem.W.Frag} {mg : Str → Option Value} {base : Heap} {x qual : Str} {params : Arguments} {body : List Stmt} {scope : Scope} {dvs : List V} {kws : List (Str × V)} {f : Addr} {fd : FuncData} {CX : CXT} {N ps : List Str} {k : Nat} {sp : Sp} (F : FunD K x qual params body scope dvs kws f fd) (S : FnScope N ps scope) (len : ∀ vs H Q E, sp vs H Q E → vs.length = ps.length)
    (hb : ∀ (cdv : Value) (A : Around) (outer : List Env) (s : Shared) (H : Hp) (vs : List V) (Q : VK) (E : XK), RG k (A.deeper (envOfC qual scope s.heap.objs.size f cdv)) → sp vs H Q E → ∃ t, PSs (cxOf CX P w K mg base N qual scope f cdv A outer s H E) body t ∧ t { nx := fun _ H' => Q .non H', rt := Q } (start N vs) H) : FnG P w K mg base CX (k + 1) f fd ps sp := by
  obtain ⟨oc, od, dV, kV, doc, pm, an, cdv, ct, osl, rfl, lk, hcd, _, _⟩ := F.ex
  constructor
  · exact len
  · intro A outer s H args us vs Q E hr e0 bd rv hs
    have n := len _ _ _ _ hs
    have KX : K.In s.heap := e0.mod.kin.keeps fun b o e => (e0.bs b o e).1
    have lim := e0.mod.nolimit.keeps fun b o e => (e0.bs b o e).1
    have kinds : ∀ y ∈ ps.zip us, scope.names.lookup y.1 = some .local ∨ (scope.names.lookup y.1 = some .cell ∧ ((cellsFrom (s.heap.objs.size + 1) scope.names []).lookup y.1).isSome = true) := by
      rintro ⟨n, v⟩ hy
      exact (S.par n (List.of_mem_zip hy).1).imp id fun q => ⟨q, PySem.W.cellsFrom_some _ _ _ (.inl q)⟩
    refine codeAny_call_function hr.toRoom.depth (KX _ _ lk) rfl S.co S.gen rfl (PySem.W.codeRec_of KX hcd) (bd _ _ _ _ (wpAny_newFunctionEnv_cells S.kind kinds fun env he s1 x => ?_))
    subst he
    refine ⟨lim.keeps x.toInCall.keep, codeAny_func ?_⟩
    obtain ⟨t, ht, q⟩ := hb cdv A outer s H vs Q E (hr.deeper _) hs
    have I := inv_start (CX := CX) (E := E) S hr.hd e0 n rv x
    refine wpAny_mono (ht.run [] s1 (start N vs) H _ I q) (fun fl s' z => ?_) fun _ _ z => z
    cases fl with
    | ret u =>
      obtain ⟨v, σ', H', J, r, z⟩ := z
      exact ⟨v, H', J.os, J.bare, J.base, J.hok, r, z⟩
    | next =>
      obtain ⟨σ', H', J, z⟩ := z
      exact ⟨.non, H', J.os, J.bare, J.base, J.hok, rfl, z⟩
    | brk => exact z.choose_spec.choose_spec.2.elim
    | cont => exact z.choose_spec.choose_spec.2.elim
section
variable {X : Cx} {CX : CXT} {k : Nat} {f C : Addr} {fd : FuncData} {ps : List Str} {sp : Sp} {dvs : List V} {ds : List Value} {E : XK} {x m : Str} {p pos apos : Pos} {e o : Expr} {es : List Expr} {ta : TE} {t : TA}
/-- what comes back -/
theorem back_of {pins : List (Addr × Obj)} {σ : L2.St} {H : Hp} {s s' : Shared} {Q : VK} {r : Result} (hx : Passes CX X E) (I : Inv X pins σ H s) (h : CR CX X.stack X.prog X.w H s Q E r s') : match r with
    | .ok (.ret u) => EP X pins σ Q u s'
    | .ok _ => False
    | .error e => X.xe e s' := by
  cases r with
  | error e => exact hx pins σ H s e s' I h
  | ok fl => cases fl with
    | ret u => exact I.after h
    | _ => exact h
theorem run_g {pins : List (Addr × Obj)} {σ : L2.St} {H : Hp} {s : Shared} {Q : VK} {us : List Value} {vs : List V} (F : FnG X.prog X.w X.K X.mg X.base CX k f fd ps sp) (hr : RG k X.A) (hb : Binds X.K fd ps ds) (hd : Vals dvs ds) (hx : Passes CX X E)
    (I : Inv X pins σ H s) (r : Vals vs us) (h : sp (vs ++ dvs) H Q E) : wpAny (model X.prog X.w) X.A (call (.ref f) us) (EP X pins σ Q) X.xe s := by
  have rr := r.append hd
  have n : (us ++ ds).length = ps.length := rr.length.symm.trans (F.len _ _ _ _ h)
  refine wpAny_call (codeAny_mono (F.go hr I.env0 (hb s us I.kIn n) rr h) fun r s' q => ?_)
  have z := back_of hx I q
  cases r with
  | error e => exact z
  | ok fl => cases fl <;> exact z
theorem pg_call (F : FnG X.prog X.w X.K X.mg X.base CX k f fd ps sp) (hr : RG k X.A) (hg : Gl X x) (hm : X.mg x = some (.ref f)) (hk : PySem.W.keepIn X.K (.ref f) = true) (hb : Binds X.K fd ps ds) (hd : Vals dvs ds) (hx : Passes CX X E) (ha : PA X (e :: es) t)
    (hdb : (x == ("__debug__" : Str)) = false := by decide) (he : starEach (e :: es) X.env = (false, eval e X.env) :: starEach es X.env := by rfl) (hpl : (backTo pos (starEach es X.env)).any (·.1) = false := by rfl) : PE X (.Call (.Name x p) (e :: es) [] pos) (tCall sp dvs E t) :=
  ⟨fun pins s σ H Q I h => wpAny_Call_Name_kw (ld_glob I hg hm (PySem.W.callWith_K (h₀ := X.base) I.ok.mod.kin hk (thn (ha.run pos pins s σ H _ I h) fun us s1 ⟨vs, H1, I1, r, q⟩ => ⟨I1.kIn, run_g F hr hb hd hx I1 r q⟩) he hpl) hdb)⟩
theorem pg_call0 (F : FnG X.prog X.w X.K X.mg X.base CX k f fd ps sp) (hr : RG k X.A) (hg : Gl X x) (hm : X.mg x = some (.ref f)) (hk : PySem.W.keepIn X.K (.ref f) = true) (hb : Binds X.K fd ps ds) (hd : Vals dvs ds) (hx : Passes CX X E)
    (hdb : (x == ("__debug__" : Str)) = false := by decide) : PE X (.Call (.Name x p) [] [] pos) (tCall sp dvs E tNil) :=
  ⟨fun pins s σ H Q I h => wpAny_Call_Name_kw (ld_glob I hg hm (PySem.W.callWith_K0 I.kIn hk (run_g (us := []) F hr hb hd hx I .nil h)) hdb)⟩
theorem pg_meth {pl : Sem Bool} (he : PE X o ta) (c : Cls X.K C) (hm : Meth X.K C m f) (F : FnG X.prog X.w X.K X.mg X.base CX k f fd ps sp) (hr : RG k X.A) (hb : Binds X.K fd ps ds) (hd : Vals dvs ds) (hx : Passes CX X E) (ha : PA X (e :: es) t)
    (hst : starEach (e :: es) X.env = (false, eval e X.env) :: starEach es X.env := by rfl) (hpl : (backTo pos (starEach es X.env)).any (·.1) = false := by rfl)
    (ht : eval (.Call (.Attribute o m apos) (e :: es) [] pos) X.env = (do let ov ← eval o X.env; standAt apos.atName; let (f, first) ← holding [ov] (getMethod ov m pl); callWith pos f first (backTo pos (starEach (e :: es) X.env)) (backToKw pos (keywordEach [] X.env))) := by rfl) :
    PE X (.Call (.Attribute o m apos) (e :: es) [] pos) (tMeth C m sp dvs E ta t) := by
  constructor
  intro pins s σ H Q I h
  refine PySem.W.methodCall_KW (pl := pl) (thn (he.run pins s σ H _ I h) fun u s1 z => ?_) ht
  obtain ⟨x, H1, I1, rx, a, dx, fs, rfl, ea, l, q⟩ := z
  cases (show u = Value.ref a from rx)
  exact getmeth_ok I1 ea c hm l (PySem.W.callWith_K (first := [.ref a]) (h₀ := X.base) I.ok.mod.kin hm.kp (thn (ha.run pos pins s1 σ H1 _ I1 q) fun us s2 ⟨vs, H2, I2, r, q2⟩ => ⟨I2.kIn, run_g (us := .ref a :: us) (vs := .ref a :: vs) F hr hb hd hx I2 (.cons rfl r) q2⟩) hst hpl)
theorem pg_meth0 {pl : Sem Bool} (he : PE X o ta) (c : Cls X.K C) (hm : Meth X.K C m f) (F : FnG X.prog X.w X.K X.mg X.base CX k f fd ps sp) (hr : RG k X.A) (hb : Binds X.K fd ps ds) (hd : Vals dvs ds) (hx : Passes CX X E)
    (ht : eval (.Call (.Attribute o m apos) [] [] pos) X.env = (do let ov ← eval o X.env; standAt apos.atName; let (f, first) ← holding [ov] (getMethod ov m pl); callWith pos f first (backTo pos (starEach [] X.env)) (backToKw pos (keywordEach [] X.env))) := by rfl) :
    PE X (.Call (.Attribute o m apos) [] [] pos) (tMeth C m sp dvs E ta tNil) := by
  constructor
  intro pins s σ H Q I h
  refine PySem.W.methodCall_KW (pl := pl) (thn (he.run pins s σ H _ I h) fun u s1 z => ?_) ht
  obtain ⟨x, H1, I1, rx, a, dx, fs, rfl, ea, l, q⟩ := z
  cases (show u = Value.ref a from rx)
  exact getmeth_ok I1 ea c hm l (PySem.W.callWith_K0 (first := [.ref a]) I1.kIn hm.kp (run_g (us := [.ref a]) (vs := [.ref a]) F hr hb hd hx I1 (.cons rfl .nil) q))
theorem run_mg {pins : List (Addr × Obj)} {σ : L2.St} {H : Hp} {s : Shared} {Q : VK} {us : List Value} {vs : List V} (M : Mk X.K C f) (F : FnG X.prog X.w X.K X.mg X.base CX k f fd ps sp) (hr : RG (k + 1) X.A) (hb : Binds X.K fd ps ds) (hd : Vals dvs ds)
    (hx : Passes CX X E) (I : Inv X pins σ H s) (r : Vals vs us) (h : ∀ x dx, H x = none → H dx = none → dx ≠ x → sp (.ref x :: (vs ++ dvs)) (upd (upd H dx (.own x)) x (.ins C dx [])) (fun v H2 => v = .non ∧ Q (.ref x) H2) E) : wpAny (model X.prog X.w) X.A (call (.ref C) us) (EP X pins σ Q) X.xe s := by
  have q := h (s.heap.objs.size + 1) s.heap.objs.size (I.hok.fresh (Nat.le_succ _)) (I.hok.fresh (Nat.le_refl _)) (Nat.ne_of_lt (Nat.lt_succ_self _))
  have J := Inv.made (C := C) I
  have rr : Vals (V.ref (s.heap.objs.size + 1) :: (vs ++ dvs)) (Value.ref (s.heap.objs.size + 1) :: (us ++ ds)) := .cons rfl (r.append hd)
  have n : (Value.ref (s.heap.objs.size + 1) :: us ++ ds).length = ps.length := rr.length.symm.trans (F.len _ _ _ _ q)
  refine wpAny_call (make_map (f := f) I.kIn M.makes M.init (beq_iff_eq.mp M.fn) (codeAny_mono (F.go (hr.make C us []) (J.env0.make C us []) (hb _ (Value.ref (s.heap.objs.size + 1) :: us) J.kIn n) rr q) fun r s' z => ?_))
  have z' := back_of hx J z
  cases r with
  | error e => exact z'
  | ok fl => cases fl with
    | ret u =>
      obtain ⟨v, H', J2, rv, rfl, y⟩ := z'
      exact ⟨rv, V.ref (s.heap.objs.size + 1), H', J2, rfl, y⟩
    | _ => exact z'
theorem pg_make (M : Mk X.K C f) (F : FnG X.prog X.w X.K X.mg X.base CX k f fd ps sp) (hr : RG (k + 1) X.A) (hg : Gl X x) (hm : X.mg x = some (.ref C)) (hb : Binds X.K fd ps ds) (hd : Vals dvs ds) (hx : Passes CX X E) (ha : PA X (e :: es) t)
    (hdb : (x == ("__debug__" : Str)) = false := by decide) (he : starEach (e :: es) X.env = (false, eval e X.env) :: starEach es X.env := by rfl) (hpl : (backTo pos (starEach es X.env)).any (·.1) = false := by rfl) : PE X (.Call (.Name x p) (e :: es) [] pos) (tMake C sp dvs E t) :=
  ⟨fun pins s σ H Q I h => wpAny_Call_Name_kw (ld_glob I hg hm (PySem.W.callWith_K (h₀ := X.base) I.ok.mod.kin M.kp (thn (ha.run pos pins s σ H _ I h) fun us s1 ⟨vs, H1, I1, r, q⟩ => ⟨I1.kIn, run_mg M F hr hb hd hx I1 r q⟩) he hpl) hdb)⟩
theorem pg_make0 (M : Mk X.K C f) (F : FnG X.prog X.w X.K X.mg X.base CX k f fd ps sp) (hr : RG (k + 1) X.A) (hg : Gl X x) (hm : X.mg x = some (.ref C)) (hb : Binds X.K fd ps ds) (hd : Vals dvs ds) (hx : Passes CX X E)
    (hdb : (x == ("__debug__" : Str)) = false := by decide) : PE X (.Call (.Name x p) [] [] pos) (tMake C sp dvs E tNil) :=
  ⟨fun pins s σ H Q I h => wpAny_Call_Name_kw (ld_glob I hg hm (PySem.W.callWith_K0 I.kIn M.kp (run_mg (us := []) M F hr hb hd hx I .nil h)) hdb)⟩
end
end Mi

set_option maxRecDepth 100000
set_option maxHeartbeats 4000000
/-! The layer's rules of calls where no repr is under way; repr. -/
namespace Mi
open PySem PySem.Spec PyProof.Rows L2
abbrev FnKG (P : Program) (w : World) (K : PySem.W.Frag) (mg : Str → Option Value) (base : Heap) (k : Nat) (f : Addr) (fd : FuncData) (ps : List Str) (F : Fn) : Prop := FnG P w K mg base (L2.CX P w) k f fd ps (spM K ps.length F)
/-- a def that raises nothing -/
theorem gfn_ok {P : Program} {w : World} {K : PySem.W.Frag} {mg : Str → Option Value} {base : Heap} {x qual : Str} {params : Arguments} {body : List Stmt} {scope : Scope} {dvs : List V} {kws : List (Str × V)} {f : Addr} {fd : FuncData} {N ps : List Str} {k : Nat} {m : MS} {CX : CXT}
    (F : FunD K x qual params body scope dvs kws f fd) (S : FnScope N ps scope)
    (hb : ∀ (cdv : Value) (A : Around) (outer : List Env) (s : Shared) (H : Hp) (E : XK), RG k (A.deeper (PyProof.Rows.envOfC qual scope s.heap.objs.size f cdv)) → PSsm (cxOf CX P w K mg base N qual scope f cdv A outer s H E).nox W0 body m) :
    FnG P w K mg base CX (k + 1) f fd ps (spM K ps.length (noX (fnOf m N.length))) := by
  refine FunD.okG F S (fun vs H Q E h => h.len) (fun cdv A outer s H vs Q E hr h => ⟨_, (hb cdv A outer s H E hr).p.nox, ?_⟩)
  obtain ⟨args, hh, G, μ, rh, ra, el, q⟩ := h
  refine ⟨args.map some ++ List.replicate (N.length - args.length) none, hh, G, μ, ⟨rh, start_rel ra⟩, ?_⟩
  unfold noX fnOf at q
  revert q
  cases m (args.map some ++ List.replicate (N.length - args.length) none) hh with
  | bad => exact fun q => q.elim
  | exc e ρ' h' => exact fun q => q.elim
  | ok f ρ' h' =>
    cases f with
    | nx => exact fun q σ' H' G' μ' rel x1 => q .non H' G' μ' rel.hp x1 rfl
    | rt d => exact fun q σ' H' G' μ' rel x1 v rv => q v H' G' μ' rel.hp x1 rv
    | bk => exact fun q => q.elim
    | ct => exact fun q => q.elim
/-- a def that may raise -/
theorem gfn_okX {P : Program} {w : World} {K : PySem.W.Frag} {mg : Str → Option Value} {base : Heap} {x qual : Str} {params : Arguments} {body : List Stmt} {scope : Scope} {dvs : List V} {kws : List (Str × V)} {f : Addr} {fd : FuncData} {N ps : List Str} {k : Nat} {m : MS}
    (F : FunD K x qual params body scope dvs kws f fd) (S : FnScope N ps scope)
    (hb : ∀ (cdv : Value) (A : Around) (outer : List Env) (s : Shared) (H : Hp) (E : XK), RG k (A.deeper (PyProof.Rows.envOfC qual scope s.heap.objs.size f cdv)) → PSsm (cxOf (L2.CX P w) P w K mg base N qual scope f cdv A outer s H E) (fun cls d _ H' => E cls d H') body m) :
    FnKG P w K mg base (k + 1) f fd ps (fnOf m N.length) := by
  refine FunD.okG F S (fun vs H Q E h => h.len) (fun cdv A outer s H vs Q E hr h => ⟨_, (hb cdv A outer s H E hr).p, ?_⟩)
  obtain ⟨args, hh, G, μ, rh, ra, el, q⟩ := h
  refine ⟨args.map some ++ List.replicate (N.length - args.length) none, hh, G, μ, ⟨rh, start_rel ra⟩, ?_⟩
  unfold fnOf at q
  revert q
  cases m (args.map some ++ List.replicate (N.length - args.length) none) hh with
  | bad => exact fun q => q.elim
  | exc e ρ' h' => exact fun q d σ' H' G' μ' rel x1 re => q d H' G' μ' rel.hp x1 re
  | ok f ρ' h' =>
    cases f with
    | nx => exact fun q σ' H' G' μ' rel x1 => q .non H' G' μ' rel.hp x1 rfl
    | rt d => exact fun q σ' H' G' μ' rel x1 v rv => q v H' G' μ' rel.hp x1 rv
    | bk => exact fun q => q.elim
    | ct => exact fun q => q.elim
theorem gfn_drop {P : Program} {w : World} {K : PySem.W.Frag} {mg : Str → Option Value} {base : Heap} {k : Nat} {f : Addr} {fd : FuncData} {ps : List Str} {F : Fn} {CX : CXT} (h : FnG P w K mg base CX k f fd ps (spM K ps.length F)) : FnG P w K mg base CX k f fd ps (spM K ps.length (dropF F)) := by
  refine FnG.imp h fun vs H Q E q => ?_
  obtain ⟨args, hh, G, μ, rh, ra, el, q⟩ := q
  refine ⟨args, hh, G, μ, rh, ra, el, ?_⟩
  unfold dropF at q
  revert q
  cases F args hh with
  | bad => exact fun q => q.elim
  | exc e h' => exact fun q => q.elim
  | ok d h' =>
    dsimp only
    by_cases hc : clsd d = true ∧ DropOk hh h'
    · rw [if_pos hc]
      exact fun q v H' G' μ' r' x' rv => q v H' G' μ (rh.drop r' x' hc.2) ⟨x'.g, List.prefix_rfl⟩ (R.any hc.1 rv)
    · rw [if_neg hc]
      exact fun q => q.elim
/-- what no one calls -/
theorem gfn_bad {P : Program} {w : World} {K : PySem.W.Frag} {mg : Str → Option Value} {base : Heap} {k : Nat} {f : Addr} {fd : FuncData} {ps : List Str} {CX : CXT} : FnG P w K mg base CX k f fd ps (spM K ps.length fun _ _ => .bad) := by
  constructor
  · intro vs H Q E h
    exact h.len
  · intro A outer s H args us vs Q E _ _ _ _ h
    obtain ⟨_, _, _, _, _, _, _, q⟩ := h
    exact q.elim
/-- what is known of a def: where it stands, its worth, its defaults -/
structure DfG (P : Program) (w : World) (K : PySem.W.Frag) (mg : Str → Option Value) (base : Heap) (k : Nat) (f : Addr) (n nd : Nat) (ds : List AV) (F : Fn) : Prop where
  ex : ∃ (fd : FuncData) (ps : List Str) (dvs : List V) (vs : List Value), ps.length = n ∧ FnKG P w K mg base k f fd ps F ∧ Binds K fd ps vs ∧ Vals dvs vs ∧ (∀ μ G, RL K μ G ds dvs)
  kp : PySem.W.keepIn K (.ref f) = true
section
variable {X : Cx} {W : WX2} {pos : Pos} {e o : Expr} {es : List Expr} {m : MA} {mo : ME}
theorem eg_call {x : Str} {p : Pos} {f : Addr} {k n nd : Nat} {ds : List AV} {F : Fn} (D : DfG X.prog X.w X.K X.mg X.base k f n nd ds F) (hr : RG k X.A) (hm : X.mg x = some (.ref f)) (ha : PAm X W (e :: es) m) (hg : Gl X x := by rfl)
    (hdb : (x == ("__debug__" : Str)) = false := by decide) (he : starEach (e :: es) X.env = (false, eval e X.env) :: starEach es X.env := by rfl) (hpl : (backTo pos (starEach es X.env)).any (·.1) = false := by rfl) :
    PEm X W (.Call (.Name x p) (e :: es) [] pos) (mCall n F ds m) := by
  obtain ⟨fd, ps, dvs, vs, hn, FF, hb, hd, hds⟩ := D.ex
  obtain ⟨t, q, s⟩ := ha.x
  subst hn
  exact .of (pg_call FF hr hg hm D.kp hb hd passL q hdb he hpl) (se_call hds s)
theorem eg_call0 {x : Str} {p : Pos} {f : Addr} {k n nd : Nat} {ds : List AV} {F : Fn} (D : DfG X.prog X.w X.K X.mg X.base k f n nd ds F) (hr : RG k X.A) (hm : X.mg x = some (.ref f)) (hg : Gl X x := by rfl)
    (hdb : (x == ("__debug__" : Str)) = false := by decide) : PEm X W (.Call (.Name x p) [] [] pos) (mCall n F ds mNil) := by
  obtain ⟨fd, ps, dvs, vs, hn, FF, hb, hd, hds⟩ := D.ex
  subst hn
  exact .of (pg_call0 FF hr hg hm D.kp hb hd passL hdb) (se_call hds sim_nil)
theorem eg_meth {pl : Sem Bool} {c m' : Str} {apos : Pos} {f : Addr} {k n nd : Nat} {ds : List AV} {F : Fn} (D : DfG X.prog X.w X.K X.mg X.base k f n nd ds F) (hr : RG k X.A) (hc : Cls X.K (He.ga X.K c)) (hm : Meth X.K (He.ga X.K c) m' f) (ho : PEm X W o mo) (ha : PAm X W (e :: es) m)
    (hst : starEach (e :: es) X.env = (false, eval e X.env) :: starEach es X.env := by rfl) (hpl : (backTo pos (starEach es X.env)).any (·.1) = false := by rfl)
    (ht : eval (.Call (.Attribute o m' apos) (e :: es) [] pos) X.env = (do let ov ← eval o X.env; standAt apos.atName; let (f, first) ← holding [ov] (getMethod ov m' pl); callWith pos f first (backTo pos (starEach (e :: es) X.env)) (backToKw pos (keywordEach [] X.env))) := by rfl) :
    PEm X W (.Call (.Attribute o m' apos) (e :: es) [] pos) (mMeth c m' n F ds mo m) := by
  obtain ⟨fd, ps, dvs, vs, hn, FF, hb, hd, hds⟩ := D.ex
  obtain ⟨t, q, s⟩ := ha.x
  obtain ⟨t', q', s'⟩ := ho.x
  subst hn
  exact .of (pg_meth q' hc hm FF hr hb hd passL q hst hpl ht) (se_meth hds s' s)
theorem eg_meth0 {pl : Sem Bool} {c m' : Str} {apos : Pos} {f : Addr} {k n nd : Nat} {ds : List AV} {F : Fn} (D : DfG X.prog X.w X.K X.mg X.base k f n nd ds F) (hr : RG k X.A) (hc : Cls X.K (He.ga X.K c)) (hm : Meth X.K (He.ga X.K c) m' f) (ho : PEm X W o mo)
    (ht : eval (.Call (.Attribute o m' apos) [] [] pos) X.env = (do let ov ← eval o X.env; standAt apos.atName; let (f, first) ← holding [ov] (getMethod ov m' pl); callWith pos f first (backTo pos (starEach [] X.env)) (backToKw pos (keywordEach [] X.env))) := by rfl) :
    PEm X W (.Call (.Attribute o m' apos) [] [] pos) (mMeth c m' n F ds mo mNil) := by
  obtain ⟨fd, ps, dvs, vs, hn, FF, hb, hd, hds⟩ := D.ex
  obtain ⟨t', q', s'⟩ := ho.x
  subst hn
  exact .of (pg_meth0 q' hc hm FF hr hb hd passL ht) (se_meth hds s' sim_nil)
theorem eg_make {x : Str} {p : Pos} {f : Addr} {k n nd : Nat} {ds : List AV} {F : Fn} (D : DfG X.prog X.w X.K X.mg X.base k f n nd ds F) (hr : RG (k + 1) X.A) (M : Mk X.K (He.ga X.K x) f) (hm : X.mg x = some (.ref (He.ga X.K x))) (ha : PAm X W (e :: es) m) (hg : Gl X x := by rfl)
    (hdb : (x == ("__debug__" : Str)) = false := by decide) (he : starEach (e :: es) X.env = (false, eval e X.env) :: starEach es X.env := by rfl) (hpl : (backTo pos (starEach es X.env)).any (·.1) = false := by rfl) :
    PEm X W (.Call (.Name x p) (e :: es) [] pos) (mMake x n F ds m) := by
  obtain ⟨fd, ps, dvs, vs, hn, FF, hb, hd, hds⟩ := D.ex
  obtain ⟨t, q, s⟩ := ha.x
  subst hn
  exact .of (pg_make M FF hr hg hm hb hd passL q hdb he hpl) (se_make hds s)
theorem eg_make0 {x : Str} {p : Pos} {f : Addr} {k n nd : Nat} {ds : List AV} {F : Fn} (D : DfG X.prog X.w X.K X.mg X.base k f n nd ds F) (hr : RG (k + 1) X.A) (M : Mk X.K (He.ga X.K x) f) (hm : X.mg x = some (.ref (He.ga X.K x))) (hg : Gl X x := by rfl)
    (hdb : (x == ("__debug__" : Str)) = false := by decide) : PEm X W (.Call (.Name x p) [] [] pos) (mMake x n F ds mNil) := by
  obtain ⟨fd, ps, dvs, vs, hn, FF, hb, hd, hds⟩ := D.ex
  subst hn
  exact .of (pg_make0 M FF hr hg hm hb hd passL hdb) (se_make hds sim_nil)
theorem eg_makeC {x : Str} {p : Pos} {f : Addr} {k n nd : Nat} {ds : List AV} {F : Fn} (D : DfG X.prog X.w X.K X.mg X.base k f n nd ds F) (hr : RG (k + 1) X.A) (M : Mk X.K (He.ga X.K x) f) (hm : X.mg x = some (.ref (He.ga X.K x))) (ha : PAm X W (e :: es) m) (hg : Gl X x := by rfl)
    (hdb : (x == ("__debug__" : Str)) = false := by decide) (he : starEach (e :: es) X.env = (false, eval e X.env) :: starEach es X.env := by rfl) (hpl : (backTo pos (starEach es X.env)).any (·.1) = false := by rfl) :
    PEm X W (.Call (.Name x p) (e :: es) [] pos) (mMakeC x n F ds m) := by
  obtain ⟨fd, ps, dvs, vs, hn, FF, hb, hd, hds⟩ := D.ex
  obtain ⟨t, q, s⟩ := ha.x
  subst hn
  exact .of (pg_make M FF hr hg hm hb hd passL q hdb he hpl) (se_makeC hds s)
theorem eg_makeC0 {x : Str} {p : Pos} {f : Addr} {k n nd : Nat} {ds : List AV} {F : Fn} (D : DfG X.prog X.w X.K X.mg X.base k f n nd ds F) (hr : RG (k + 1) X.A) (M : Mk X.K (He.ga X.K x) f) (hm : X.mg x = some (.ref (He.ga X.K x))) (hg : Gl X x := by rfl)
    (hdb : (x == ("__debug__" : Str)) = false := by decide) : PEm X W (.Call (.Name x p) [] [] pos) (mMakeC x n F ds mNil) := by
  obtain ⟨fd, ps, dvs, vs, hn, FF, hb, hd, hds⟩ := D.ex
  subst hn
  exact .of (pg_make0 M FF hr hg hm hb hd passL hdb) (se_makeC hds sim_nil)
/-! ### repr of lists and tuples -/
def rRepr (K : PySem.W.Frag) (vs : List V) (H : Hp) (Q : VK) : Prop := ∃ a d, vs = [.ref a] ∧ Dp K H (.ref a) d ∧ d.showable = true ∧ SeqAt.shaped d = true ∧ d.shown.length ≤ sizeLine ∧ Q (.str d.shown) H
theorem call_reprD {k : Nat} (hr : RG k X.A) : CallR X (.builtin "repr") (rRepr X.K) := by
  intro pins s σ H xs us Q I r h
  obtain ⟨a, d, rfl, hd, hs, sd, hl, q⟩ := h
  obtain ⟨u, rfl, ru⟩ := vals1 r
  cases (show u = Value.ref a from ru)
  obtain ⟨as, r1⟩ := Dp.reads I d (.ref a) (.ref a) hd rfl
  have c := SeqAt.canLay_of_shaped sd
  have dd := SeqAt.depth_of_shaped sd
  have un := hr.un
  exact repr_of_reads' r1 hs (fun z => by rw [PyData.hasDict_of_canLay d c] at z; cases z) hr.gd (by omega) (fun _ _ e => e) (fun h' u tk hk => ⟨.str d.shown, H, I.kept (t' := tk) hk, ⟨u, rfl⟩, q⟩) hl
def aRepr : FC := fun xs h => match xs with
  | [x] => (match getL h x, py h x with
    | some _, some d => if d.showable = true ∧ SeqAt.shaped d = true ∧ d.shown.length ≤ sizeLine then some (.str d.shown) else none
    | _, _ => none)
  | _ => none
theorem sc_repr {K : PySem.W.Frag} : SimC K (rRepr K) aRepr := fun H h G μ rh xs vs rs Q z e k => by
  match xs, e with
  | [x], e =>
    obtain ⟨v, rfl, rv⟩ := one_inv rs
    have e' : (match getL h x, py h x with
      | some _, some d => if d.showable = true ∧ SeqAt.shaped d = true ∧ d.shown.length ≤ sizeLine then some (AV.str d.shown) else none
      | _, _ => none) = some z := e
    cases q : getL h x with
    | none =>
      rw [q] at e'
      cases e'
    | some l =>
      cases q2 : py h x with
      | none =>
        rw [q, q2] at e'
        cases e'
      | some d =>
        rw [q, q2] at e'
        dsimp only at e'
        by_cases c : d.showable = true ∧ SeqAt.shaped d = true ∧ d.shown.length ≤ sizeLine
        · rw [if_pos c] at e'
          cases e'
          obtain ⟨a, us, rfl, _, _⟩ := getL_sq rh rv q
          exact ⟨a, d, rfl, py_dp rh rv q2, c.1, c.2.1, c.2.2, k _ H G rh (Ext.refl _ _) rfl⟩
        · rw [if_neg c] at e'
          cases e'
end
end Mi

set_option maxRecDepth 100000
set_option maxHeartbeats 4000000
/-! The law's end: the caller's surroundings are known. -/
namespace Mi
open PySem PySem.Spec PyProof.Rows L2
theorem top_gd {k : Nat} (h : Room k callerA) : RG k callerA := ⟨h, rfl⟩
section
variable {P : Program} {w : World} {K : PySem.W.Frag} {mg mb : Str → Option Value} {CX : CXT} {k : Nat} {fa a : Addr} {fd : FuncData} {x : Str} {sp : Sp} {s₁ : Shared} {vs : List Value} {ns : List Int}
/-- behind an abstract heap that tracks the script at most -/
theorem top_core (KX : K.In s₁.heap) (n1 : s₁.heap.Ns mainGlobals mg) (n2 : s₁.heap.Ns builtinsNs mb) (n3 : ∀ x : Str, x ≠ "__name__" → mb x = bootBuiltins x) (lim : s₁.heap.NoLimit) (g0 : s₁.gens = #[])
    (ha : s₁.heap.get? a = some { cls := .type "list", data := .seq vs.toArray }) (hr : Room k callerA) (F : ∀ base : Heap, K.In base → base.Ns mainGlobals mg → FnG P w K mg base CX k fa fd [x] sp) (bd : ∀ (s : Shared) (u : Value), BindsTo s fd ⟨[u], []⟩ [(x, u)])
    (hsp : ∀ H : Hp, Only H → SqL K H a (ns.map V.int) → sp [.ref a] H (fun v _ => v = .bl true) fun _ _ _ => False) (hCX : ∀ H e s', CX [] H s₁ (fun _ _ _ => False) e s' → False)
    {H : Hp} (o1 : Only H) (o2 : SqL K H a (ns.map V.int)) (ok : HOk P w H s₁.heap) (one : ∀ b, H b ≠ none → b = a) (out : H a ≠ none → K.lookup a = none) :
    codeAny (model P w) callerA (.call (.ref fa) ⟨[.ref a], []⟩) (fun r s' => r = .ok (.ret (.bool true)) ∧ OldK s₁.heap s'.heap ∧ s'.os = s₁.os ∧ AllBare s'.gens) s₁ := by
  have dict0 : ∀ {b : Addr} {o : Obj} {es : Array DictEntry} {ep : Nat}, s₁.heap.get? b = some o → o.data = .dict es ep → H b = none := by
    intro b o es ep e d
    refine Classical.byContradiction fun z => ?_
    have eb := one b z
    rw [eb, ha] at e
    cases e
    exact Data.noConfusion d
  have ns1 : ∀ {b : Addr} {m : Str → Option Value}, s₁.heap.Ns b m → (hidT s₁.heap H).Ns b m := by
    rintro b m ⟨o, es, ep, e, d, r⟩
    exact ⟨o, es, ep, hidT_get e (dict0 e d), d, r⟩
  have k1 : K.In (hidT s₁.heap H) := by
    intro b o e
    refine hidT_get (KX b o e) (Classical.byContradiction fun z => ?_)
    have eb := one b z
    rw [eb] at e z
    rw [out z] at e
    cases e
  have mm : Mod K mg (hidT s₁.heap H) := by
    obtain ⟨mc, l1, l2⟩ := lim
    exact ⟨k1, ns1 n1, ⟨mb, ns1 n2, n3⟩, mc, ns1 l1, l2⟩
  have e0 : Env0 P w K mg (hidT s₁.heap H) callerA [] s₁ H := by
    refine ⟨rfl, mm, fun b o e => of_hidT e, Nat.le_of_eq (hidT_size _ _), trivial, ?_, ok, .of_eq g0⟩
    exact fun b hb => (List.not_mem_nil hb).elim
  have vv : Vals [V.ref a] [Value.ref a] := .cons rfl .nil
  refine codeAny_mono ((F _ k1 (ns1 n1)).go (us := [.ref a]) (top_gd hr) e0 (bd s₁ (.ref a)) vv (hsp H o1 o2)) fun r s' q => ?_
  cases r with
  | error e => exact absurd q (hCX H e s')
  | ok fl => cases fl with
    | ret u =>
      obtain ⟨v, H', os, bare, un, ok', r', rfl⟩ := q
      cases (show u = Value.bool true from r')
      refine ⟨rfl, OldK.of_keep fun b o e => ?_, os, bare⟩
      rcases o1 b with z | ⟨ob, xs, z⟩
      · exact un.keep b o e z (fun y => (List.not_mem_nil y).elim) (fun y => (List.not_mem_nil y).elim)
      · have f1 := (ok b _ z).1
        have f2 := (ok' b _ (un.frzs b ob _ z)).1
        rw [e] at f1
        cases f1
        exact f2
    | _ => exact q.elim
theorem top_call (KX : K.In s₁.heap) (n1 : s₁.heap.Ns mainGlobals mg) (n2 : s₁.heap.Ns builtinsNs mb) (n3 : ∀ x : Str, x ≠ "__name__" → mb x = bootBuiltins x) (lim : s₁.heap.NoLimit) (g0 : s₁.gens = #[])
    (ha : s₁.heap.get? a = some { cls := .type "list", data := .seq vs.toArray }) (hi : IntsAre vs ns) (hl : ns.length ≤ sizeLine) (hr : Room k callerA) (F : ∀ base : Heap, K.In base → base.Ns mainGlobals mg → FnG P w K mg base CX k fa fd [x] sp) (bd : ∀ (s : Shared) (u : Value), BindsTo s fd ⟨[u], []⟩ [(x, u)])
    (hsp : ∀ H : Hp, Only H → SqL K H a (ns.map V.int) → sp [.ref a] H (fun v _ => v = .bl true) fun _ _ _ => False) (hCX : ∀ H e s', CX [] H s₁ (fun _ _ _ => False) e s' → False) :
    codeAny (model P w) callerA (.call (.ref fa) ⟨[.ref a], []⟩) (fun r s' => r = .ok (.ret (.bool true)) ∧ OldK s₁.heap s'.heap ∧ s'.os = s₁.os ∧ AllBare s'.gens) s₁ := by
  have rv := vals_ints hi
  have n := hi.length
  rcases hk : K.lookup a with _ | o
  · let Hs : Hp := fun b => if b = a then some (.frz { cls := .type "list", data := .seq vs.toArray } (.lst (ns.map V.int))) else none
    have at_ : Hs a = some (.frz { cls := .type "list", data := .seq vs.toArray } (.lst (ns.map V.int))) := if_pos rfl
    have off : ∀ {b}, b ≠ a → Hs b = none := fun h => if_neg h
    refine top_core KX n1 n2 n3 lim g0 ha hr F bd hsp hCX (H := Hs) (fun b => ?_) (.inl (.inr ⟨_, at_⟩)) (fun b u z => ?_) (fun b z => Classical.byContradiction fun hb => z (off hb)) fun _ => hk
    · by_cases hb : b = a
      · rw [hb]
        exact .inr ⟨_, _, at_⟩
      · exact .inl (off hb)
    · by_cases hb : b = a
      · rw [hb] at z ⊢
        rw [at_] at z
        cases z
        exact ⟨ha, by rw [List.length_map]; exact hl, vs, _, rv, ha⟩
      · rw [off hb] at z
        cases z
  · have e := KX a o hk
    rw [ha] at e
    cases e
    exact top_core KX n1 n2 n3 lim g0 ha hr F bd hsp hCX (H := fun _ => none) (fun _ => .inl rfl) (.inr ⟨_, vs.toArray, _, hk, rfl, rfl, rfl, by rw [List.size_toArray, n]; exact hl, by simpa using rv⟩) (fun b u z => nomatch z) (fun b z => (z rfl).elim) fun z => (z rfl).elim
end
theorem walk_ofG {l : PySem.W.OpenLaw} {n k : Nat} {q : Program} {loose : List Str} {XP : (Str → Option Value) → Heap → Prop} {YP : World → Heap → Prop} {d : DefRec} {CX : CXT} {x : Str} (hn : l.most = some n) (hn2 : n ≤ sizeLine) (hdf : d.params.defaults = []) (hr : Room k callerA)
    (F : ∀ (w : World) (mg : Str → Option Value) (fa : Addr) (h : Heap), YP w h → h.Ns mainGlobals mg → mg d.name = some (.ref fa) → ∃ (K : PySem.W.Frag) (fd : FuncData) (sp : Sp), K.In h ∧ (∀ (s : Shared) (u : Value), BindsTo s fd ⟨[u], []⟩ [(x, u)]) ∧
      (∀ (H : Hp) (a : Addr) (ns : List Int), ns.length ≤ n → Only H → SqL K H a (ns.map V.int) → sp [.ref a] H (fun v _ => v = .bl true) fun _ _ _ => False) ∧ ∀ base : Heap, K.In base → base.Ns mainGlobals mg → FnG l.prog w K mg base CX k fa fd [x] sp)
    (hCX : ∀ (H : Hp) (s : Shared) (e : Value) (s' : Shared), CX [] H s (fun _ _ _ => False) e s' → False) : PySem.W.WalkO q loose XP YP l.row.toRowW d [] (fun f vs => PySem.call f vs) := by
  refine Att.attach_call hn hdf fun w s₀ s₁ mg mb fa o pm cd doc a vs ns G Y ho hd hcd hmg hobj hints hlen hg => ?_
  obtain ⟨K, fd, sp, KX, bd, hsp, hF⟩ := F w mg fa _ Y G.T.g hmg
  exact top_call KX G.T.g G.T.b G.T.builtins G.T.nolimit hg hobj hints (Nat.le_trans hlen hn2) hr hF bd (fun H o1 o2 => hsp H a ns hlen o1 o2) fun H e s' => hCX H s₁ e s'
end Mi

set_option maxRecDepth 100000
set_option maxHeartbeats 4000000
/-! Meanings, evaluated. -/
namespace Mi
open PySem PySem.Spec L2
theorem aAt_0 {a : AV} {l : List AV} : aAt (a :: l) 0 = some a := by
  unfold aAt ixN
  rw [if_pos (by decide), if_pos (by rw [List.length_cons]; omega)]
  rfl
theorem aAt_nat {l : List AV} {i : Nat} {x : AV} (e : l[i]? = some x) : aAt l (i : Int) = some x := by
  have hi := (List.getElem?_eq_some_iff.mp e).1
  unfold aAt ixN
  rw [if_pos (by omega), if_pos (by omega)]
  exact e
theorem aAt_1 {a b : AV} {l : List AV} : aAt (a :: b :: l) 1 = some b := aAt_nat (i := 1) rfl
theorem aAt_2 {a b c : AV} {l : List AV} : aAt (a :: b :: c :: l) 2 = some c := aAt_nat (i := 2) rfl
theorem aEq_int {a b : Int} {h : AHeap} : aEq (.int a) (.int b) h = some (.bl (a == b)) := rfl
theorem aNe_int {a b : Int} {h : AHeap} : aNe (.int a) (.int b) h = some (.bl (!(a == b))) := rfl
theorem aEq_t2 {a b c d : Int} {h : AHeap} : aEq (.tup [.int a, .int b]) (.tup [.int c, .int d]) h = some (.bl (a == c && (b == d && true))) := rfl
theorem aNe_t2 {a b c d : Int} {h : AHeap} : aNe (.tup [.int a, .int b]) (.tup [.int c, .int d]) h = some (.bl (!(a == c && (b == d && true)))) := rfl
theorem aNe_ni {b : Int} {h : AHeap} : aNe .non (.int b) h = some (.bl true) := rfl
theorem aNe_in {b : Int} {h : AHeap} : aNe (.int b) .non h = some (.bl true) := rfl
theorem aNe_nn {h : AHeap} : aNe .non .non h = some (.bl false) := rfl
theorem aIx_t {l : List AV} {i : Int} {h : AHeap} : aIx (.tup l) (.int i) h = aAt l i := rfl
theorem aIx_l {l : List AV} {i : Int} {h : AHeap} : aIx (.lst l) (.int i) h = aAt l i := rfl
theorem aAdd_int {a b : Int} {h : AHeap} : aAdd (.int a) (.int b) h = some (.int (a + b)) := rfl
theorem aSub_int {a b : Int} {h : AHeap} : aSub (.int a) (.int b) h = some (.int (a - b)) := rfl
theorem aMul_int {a b : Int} {h : AHeap} : aMul (.int a) (.int b) h = if mulOk a b = true then some (.int (a * b)) else none := rfl
theorem aMod_int {a b : Int} {h : AHeap} : aMod (.int a) (.int b) h = if b = 0 then none else some (.int (a.fmod b)) := rfl
theorem aFdiv_int {a b : Int} {h : AHeap} : aFdiv (.int a) (.int b) h = if divOk a b = true then some (.int (a.fdiv b)) else none := rfl
theorem aCmp_int {p : Int → Int → Bool} {a b : Int} {h : AHeap} : aCmp p (.int a) (.int b) h = some (.bl (p a b)) := rfl
theorem aIs_n {x : AV} {h : AHeap} : aIs x .non h = some (.bl (isN x)) := rfl
theorem aIsNot_n {x : AV} {h : AHeap} : aIsNot x .non h = some (.bl (!isN x)) := rfl
theorem aIsNot_b {a b : Bool} {h : AHeap} : aIsNot (.bl a) (.bl b) h = some (.bl (!decide (a = b))) := rfl
theorem tr_bl {h : AHeap} {b : Bool} : truth h (.bl b) = some b := rfl
theorem tr_lst {h : AHeap} {l : List AV} : truth h (.lst l) = some (!l.isEmpty) := rfl
theorem isi {n t : String} {x : AV} {b : Bool} {h : AHeap} (ht : tyName x = some t) (hk : kitB t n = some b) : aIsi n [x, .ty n] h = some (.bl b) := by
  show (if n = n then (match tyName x with
    | some t => (match kitB t n with
      | some b => some (AV.bl b)
      | none => none)
    | none => none) else none) = some (.bl b)
  rw [if_pos rfl, ht]
  dsimp only
  rw [hk]
theorem isi_ii {a : Int} {h : AHeap} : aIsi "int" [.int a, .ty "int"] h = some (.bl true) := isi rfl (by decide +kernel)
theorem isi_ib {a : Int} {h : AHeap} : aIsi "bool" [.int a, .ty "bool"] h = some (.bl false) := isi rfl (by decide +kernel)
theorem isi_tt {l : List AV} {h : AHeap} : aIsi "tuple" [.tup l, .ty "tuple"] h = some (.bl true) := isi rfl (by decide +kernel)

/-! ### whole numbers -/
/-- below 2 ^ 4000 -/
def Sm (x : Int) : Prop := x.natAbs < 2 ^ 4000
theorem log_sm {x : Int} (h : Sm x) : x.natAbs.log2 < 4000 := PySem.Flt.log2_lt_of (by decide) h
theorem bits_sm {x : Int} (h : Sm x) : Builtin.Int.intBits x ≤ 4001 := by
  have := log_sm h
  unfold Builtin.Int.intBits
  split <;> omega
theorem mul_sm {i j : Int} (hi : Sm i) (hj : Sm j) : mulOk i j = true := by
  have h1 := bits_sm hi
  have h2 := bits_sm hj
  unfold mulOk Builtin.Int.intTooBig
  have e : bitsLine = 134217728 := by decide
  rw [e]
  have h3 : ¬ (((Builtin.Int.intBits i : Nat) : Int) + ((Builtin.Int.intBits j : Nat) : Int) > ((134217728 : Nat) : Int)) := by omega
  rw [decide_eq_false h3]
  simp
theorem bits_64 {k : Int} (h1 : -(2 ^ 64) < k) (h2 : k < 2 ^ 64) : Builtin.Int.intBits k ≤ 64 := intBits_le_64 h1 h2
theorem mul_l {i j : Int} (h1 : -(2 ^ 64) < i) (h2 : i < 2 ^ 64) : mulOk i j = true := by
  have h3 := bits_64 h1 h2
  have h4 : ¬ (Builtin.Int.intBits i > shortFactorBits) := by
    have e : shortFactorBits = 64 := rfl
    rw [e]
    omega
  unfold mulOk
  rw [decide_eq_false h4]
  simp
theorem mul_r {i j : Int} (h1 : -(2 ^ 64) < j) (h2 : j < 2 ^ 64) : mulOk i j = true := by
  have h3 := bits_64 h1 h2
  have h4 : ¬ (Builtin.Int.intBits j > shortFactorBits) := by
    have e : shortFactorBits = 64 := rfl
    rw [e]
    omega
  unfold mulOk
  rw [decide_eq_false h4]
  simp
theorem div_sm {i j : Int} (h0 : j ≠ 0) (hj : Sm j) : divOk i j = true := by
  have h1 := log_sm hj
  have h2 := PyProof.noPylong_of_log2 (x := i) (y := j) (by omega)
  unfold divOk
  rw [h2, decide_eq_true h0]
  rfl
theorem sm_of {x : Int} {n : Nat} (h : x.natAbs < 2 ^ n) (hn : n ≤ 4000) : Sm x := Nat.lt_of_lt_of_le h (Nat.pow_le_pow_right (by decide) hn)
theorem sm_small {x : Int} (h1 : -(2 ^ 64) < x) (h2 : x < 2 ^ 64) : Sm x := sm_of (n := 64) (by omega) (by decide)
end Mi

set_option maxRecDepth 100000
set_option maxHeartbeats 4000000
/-! Meanings, evaluated: loops. -/
namespace Mi
open PySem PySem.Spec L2
/-- one round of a for that goes on -/
def Goes (g : MG) (b : MS) (d : AV) (ρ : Env2) (h : AHeap) (ρ' : Env2) (h' : AHeap) : Prop := ∃ ρ1 h1, g d ρ h = .ok .nx ρ1 h1 ∧ (b ρ1 h1 = .ok .nx ρ' h' ∨ b ρ1 h1 = .ok .ct ρ' h')
theorem forL_go {g : MG} {b : MS} {d : AV} {l : List AV} {ρ ρ' : Env2} {h h' : AHeap} (x : Goes g b d ρ h ρ' h') : forL g b (d :: l) ρ h = forL g b l ρ' h' := by
  obtain ⟨ρ1, h1, e1, e2⟩ := x
  show (match g d ρ h with
    | .ok .nx ρ1 h1 => (match b ρ1 h1 with
      | .ok .nx ρ2 h2 => forL g b l ρ2 h2
      | .ok .ct ρ2 h2 => forL g b l ρ2 h2
      | .ok .bk ρ2 h2 => .ok .nx ρ2 h2
      | r => r)
    | _ => .bad) = _
  rw [e1]
  dsimp only
  rcases e2 with e2 | e2 <;> rw [e2]
theorem forL_run {g : MG} {b : MS} {I : List AV → Env2 → AHeap → Prop} (step : ∀ d l ρ h, I (d :: l) ρ h → ∃ ρ' h', Goes g b d ρ h ρ' h' ∧ I l ρ' h') : ∀ (l : List AV) (ρ : Env2) (h : AHeap), I l ρ h → ∃ ρ' h', forL g b l ρ h = .ok .nx ρ' h' ∧ I [] ρ' h'
  | [], ρ, h, i => ⟨ρ, h, rfl, i⟩
  | d :: l, ρ, h, i => by
    obtain ⟨ρ1, h1, e1, i1⟩ := step d l ρ h i
    obtain ⟨ρ2, h2, e2, i2⟩ := forL_run step l ρ1 h1 i1
    exact ⟨ρ2, h2, (forL_go e1).trans e2, i2⟩
theorem mFor_run {it : MI} {g : MG} {b : MS} {I : List AV → Env2 → AHeap → Prop} {l : List AV} {ρ : Env2} {h h1 : AHeap} (e : it ρ h = .ok l h1) (i : I l ρ h1) (step : ∀ d l ρ h, I (d :: l) ρ h → ∃ ρ' h', Goes g b d ρ h ρ' h' ∧ I l ρ' h') : ∃ ρ' h', mFor it g b ρ h = .ok .nx ρ' h' ∧ I [] ρ' h' := by
  obtain ⟨ρ2, h2, e2, i2⟩ := forL_run step l ρ h1 i
  refine ⟨ρ2, h2, ?_, i2⟩
  unfold mFor
  rw [e]
  exact e2
/-- a while, by a measure -/
theorem while_run {c : MT} {b : MS} (I : Env2 → AHeap → Prop) (m : Env2 → AHeap → Nat) (step : ∀ ρ h, I ρ h → c ρ h = .ok false h ∨ (c ρ h = .ok true h ∧ ∃ ρ' h', b ρ h = .ok .nx ρ' h' ∧ I ρ' h' ∧ m ρ' h' < m ρ h)) :
    ∀ (n : Nat) (ρ : Env2) (h : AHeap), I ρ h → m ρ h ≤ n → ∃ ρ' h', whileF c b (n + 1) ρ h = some (.ok .nx ρ' h') ∧ I ρ' h' ∧ c ρ' h' = .ok false h'
  | n, ρ, h, i, hn => by
    unfold whileF
    rcases step ρ h i with e | ⟨e, ρ', h', e2, i2, lt⟩
    · rw [e]
      exact ⟨ρ, h, rfl, i, e⟩
    · rw [e]
      dsimp only
      rw [e2]
      dsimp only
      cases n with
      | zero => omega
      | succ n => exact while_run I m step n ρ' h' i2 (by omega)
theorem mWhile_run {c : MT} {b : MS} (I : Env2 → AHeap → Prop) (m : Env2 → AHeap → Nat) (step : ∀ ρ h, I ρ h → c ρ h = .ok false h ∨ (c ρ h = .ok true h ∧ ∃ ρ' h', b ρ h = .ok .nx ρ' h' ∧ I ρ' h' ∧ m ρ' h' < m ρ h)) {ρ : Env2} {h : AHeap} (i : I ρ h) : ∃ ρ' h', mWhile c b ρ h = .ok .nx ρ' h' ∧ I ρ' h' ∧ c ρ' h' = .ok false h' := by
  obtain ⟨ρ', h', e, i2, e2⟩ := while_run I m step _ ρ h i (Nat.le_refl _)
  exact ⟨ρ', h', mWhile_of e, i2, e2⟩
theorem aInt_int {a : Int} {h : AHeap} : aInt [.int a] h = some (.int a) := rfl
theorem aAbs_int {a : Int} {h : AHeap} : aAbs [.int a] h = some (.int (a.natAbs : Int)) := by
  show some (AV.int (if a < 0 then -a else a)) = _
  congr 2
  split <;> omega
theorem aLen_tup {l : List AV} {h : AHeap} : aLen [.tup l] h = some (.int (l.length : Int)) := rfl
theorem aLen_lst {l : List AV} {h : AHeap} : aLen [.lst l] h = some (.int (l.length : Int)) := rfl
theorem aNe_same {x y : AV} {h : AHeap} {d : PyData} (e : py h x = some d) (e2 : py h y = some d) (s : SeqAt.shaped d = true) : aNe x y h = some (.bl false) := by
  unfold aNe
  rw [e, e2]
  dsimp only
  rw [if_pos ⟨s, s⟩, SeqAt.eqv_refl d (SeqAt.canLay_of_shaped s)]
  rfl
theorem py0_t2 (a b : Int) : py0 (.tup [.int a, .int b]) = some (.tuple [.int a, .int b]) := rfl
/-- pairs of whole numbers -/
def pA (x : Int × Int) : AV := .tup [.int x.1, .int x.2]
def pD (x : Int × Int) : PyData := .tuple [.int x.1, .int x.2]
theorem py0L_pairs : ∀ l : List (Int × Int), py0L (l.map pA) = some (l.map pD)
  | [] => rfl
  | x :: l => by
    rw [List.map_cons, List.map_cons]
    unfold py0L
    rw [show py0 (pA x) = some (pD x) from rfl, py0L_pairs l]
theorem can_pairs : ∀ l : List (Int × Int), PyData.canLayAll0 (l.map pD) = true
  | [] => rfl
  | x :: l => by
    rw [List.map_cons]
    unfold PyData.canLayAll0
    rw [can_pairs l]
    rfl
theorem dep_pairs : ∀ l : List (Int × Int), PyData.depthAll (l.map pD) ≤ 5
  | [] => by
    show PyData.depthAll [] ≤ 5
    decide
  | x :: l => by
    rw [List.map_cons]
    unfold PyData.depthAll
    have := dep_pairs l
    have e : PyData.depth (pD x) ≤ 4 := by
      unfold pD
      simp [PyData.depth, PyData.depthAll]
    omega
theorem shaped_pairs (l : List (Int × Int)) : SeqAt.shaped (.list (l.map pD)) = true := by
  unfold SeqAt.shaped
  have h1 : PyData.canLay0 (.list (l.map pD)) = true := can_pairs l
  have h2 : PyData.depth (.list (l.map pD)) ≤ 64 := by
    have := dep_pairs l
    unfold PyData.depth
    omega
  rw [h1, decide_eq_true h2]
  rfl
/-- n whole numbers from a on -/
def rng (a : Int) (n : Nat) : List AV := (List.range n).map fun (k : Nat) => AV.int (a + (k : Int))
theorem rng_zero (a : Int) : rng a 0 = [] := rfl
theorem rng_succ (a : Int) (n : Nat) : rng a (n + 1) = .int a :: rng (a + 1) n := by
  unfold rng
  rw [List.range_succ_eq_map, List.map_cons, List.map_map]
  congr 1
  · congr 1
    omega
  · apply List.map_congr_left
    intro k _
    show AV.int (a + ((k + 1 : Nat) : Int)) = AV.int (a + 1 + (k : Int))
    congr 1
    omega
theorem rng_nil {a : Int} {n : Nat} (e : rng a n = []) : n = 0 := by
  cases n with
  | zero => rfl
  | succ n =>
    rw [rng_succ] at e
    cases e
theorem rng_cons {a : Int} {n : Nat} {d : AV} {l : List AV} (e : d :: l = rng a n) : d = .int a ∧ ∃ m, n = m + 1 ∧ l = rng (a + 1) m := by
  cases n with
  | zero => cases e
  | succ n =>
    rw [rng_succ] at e
    cases e
    exact ⟨rfl, n, rfl, rfl⟩
theorem iR1_ev {a : MA} {ρ : Env2} {h h1 : AHeap} {j : Int} (e : a ρ h = .ok [.int j] h1) (h0 : -(2 ^ 62) ≤ j) (h2 : j < 2 ^ 62) : iR1 a ρ h = .ok (rng 0 j.toNat) h1 := by
  unfold iR1 rng
  rw [e]
  dsimp only
  rw [if_pos ⟨h0, h2⟩]
  simp only [Int.zero_add]
theorem iR2_ev {a : MA} {ρ : Env2} {h h1 : AHeap} {i j : Int} (e : a ρ h = .ok [.int i, .int j] h1) (h0 : -(2 ^ 62) ≤ i) (h2 : i < 2 ^ 62) (h3 : -(2 ^ 62) ≤ j) (h4 : j < 2 ^ 62) : iR2 a ρ h = .ok (rng i (j - i).toNat) h1 := by
  unfold iR2 rng
  rw [e]
  dsimp only
  rw [if_pos ⟨h0, h2, h3, h4⟩]
theorem DropOk.app (h : AHeap) (r : AHeap) : DropOk h (h ++ r) := by
  refine ⟨by rw [List.length_append]; omega, fun i mo hi e => .inl ?_⟩
  rw [List.getElem?_append_left hi] at e
  exact e
theorem mMake_of {c : Str} {n : Nat} {F : Fn} {ds : List AV} {a : MA} {ρ : Env2} {h h1 : AHeap} {l : List AV} {m : Str} {ks : List Str} {vs : List AV} (ea : a ρ h = .ok l h1) (hn : (AV.non :: (l ++ ds)).length = n)
    (hF : F (.ref h1.length :: (l ++ ds)) (h1 ++ [some (.ins c [] [])]) = .ok .non (h1 ++ [some (.ins m ks vs)])) (hc : clsdL vs = true) : mMake c n F ds a ρ h = .ok (.obj m ks vs) h1 := by
  unfold mMake
  rw [ea]
  dsimp only
  rw [if_pos hn, hF]
  dsimp only
  have e : (h1 ++ [some (MO.ins m ks vs)])[h1.length]? = some (some (MO.ins m ks vs)) := by
    rw [List.getElem?_append_right (Nat.le_refl _), Nat.sub_self] <;> rfl
  rw [e]
  dsimp only
  rw [if_pos ⟨hc, DropOk.app _ _⟩, List.take_left]
theorem lcL_pure {g : MG} {tt : MT} {e : ME} {h : AHeap} {ρ : Env2} (sel : AV → Bool) (f : AV → AV) : ∀ (l acc : List AV), (∀ x ∈ l, ∀ acc, ∃ ρ1, g x ρ (h ++ [some (.lst acc)]) = .ok .nx ρ1 (h ++ [some (.lst acc)]) ∧ tt ρ1 (h ++ [some (.lst acc)]) = .ok (sel x) (h ++ [some (.lst acc)]) ∧ (sel x = true → e ρ1 (h ++ [some (.lst acc)]) = .ok (f x) (h ++ [some (.lst acc)]))) → acc.length + l.length ≤ sizeLine →
    lcL h.length g tt e l ρ (h ++ [some (.lst acc)]) acc = .ok (acc ++ (l.filter sel).map f) (h ++ [some (.lst (acc ++ (l.filter sel).map f))])
  | [], acc, _, _ => by
    unfold lcL
    simp
  | x :: l, acc, hx, hl => by
    obtain ⟨ρ1, e1, e2, e3⟩ := hx x List.mem_cons_self acc
    have at_ : ∀ z, (h ++ [some (MO.lst z)])[h.length]? = some (some (MO.lst z)) := fun z => by
      rw [List.getElem?_append_right (Nat.le_refl _), Nat.sub_self] <;> rfl
    have st : ∀ y z, (h ++ [some (MO.lst y)]).set h.length (some (MO.lst z)) = h ++ [some (MO.lst z)] := fun y z => by
      rw [List.set_append_right _ _ (Nat.le_refl _), Nat.sub_self] <;> rfl
    rw [List.length_cons] at hl
    unfold lcL
    rw [e1]
    dsimp only
    rw [e2]
    cases q : sel x with
    | false =>
      dsimp only
      rw [at_]
      dsimp only
      rw [lcL_pure sel f l acc (fun y hy => hx y (List.mem_cons_of_mem _ hy)) (by omega), List.filter_cons_of_neg (by rw [q]; decide)]
    | true =>
      dsimp only
      rw [e3 q]
      dsimp only
      rw [at_]
      dsimp only
      rw [if_pos (by omega), st, lcL_pure sel f l (acc ++ [f x]) (fun y hy => hx y (List.mem_cons_of_mem _ hy)) (by rw [List.length_append]; simp; omega), List.filter_cons_of_pos q, List.map_cons, List.append_assoc] <;> rfl
theorem clsdL_of : ∀ {l : List AV}, (∀ x ∈ l, clsd x = true) → clsdL l = true
  | [], _ => rfl
  | x :: l, h => by
    unfold clsdL
    rw [h x List.mem_cons_self, clsdL_of fun y hy => h y (List.mem_cons_of_mem _ hy)]
    rfl
theorem mLc_pure {own : List Nat} {it : MI} {g : MG} {tt : MT} {e : ME} {ρ : Env2} {h h1 : AHeap} {l : List AV} (ei : it ρ h = .ok l h1) (sel : AV → Bool) (f : AV → AV) (hx : ∀ x ∈ l, ∀ acc, ∃ ρ1, g x (wipeA ρ own) (h1 ++ [some (.lst acc)]) = .ok .nx ρ1 (h1 ++ [some (.lst acc)]) ∧ tt ρ1 (h1 ++ [some (.lst acc)]) = .ok (sel x) (h1 ++ [some (.lst acc)]) ∧ (sel x = true → e ρ1 (h1 ++ [some (.lst acc)]) = .ok (f x) (h1 ++ [some (.lst acc)])))
    (hc : ∀ x ∈ l, sel x = true → clsd (f x) = true) (hl : l.length ≤ sizeLine) : mLc own it g tt e ρ h = .ok (.lst ((l.filter sel).map f)) h1 := by
  unfold mLc
  rw [ei]
  dsimp only
  rw [lcL_pure sel f l [] hx (by simpa using hl)]
  dsimp only
  rw [List.nil_append]
  have at_ : ∀ z, (h1 ++ [some (MO.lst z)])[h1.length]? = some (some (MO.lst z)) := fun z => by
    rw [List.getElem?_append_right (Nat.le_refl _), Nat.sub_self] <;> rfl
  have cl : clsdL ((l.filter sel).map f) = true := clsdL_of fun y hy => by
    obtain ⟨x, hx1, rfl⟩ := List.mem_map.mp hy
    exact hc x (List.mem_filter.mp hx1).1 (List.mem_filter.mp hx1).2
  rw [if_pos ⟨cl, DropOk.app _ _, at_ _⟩, List.take_left]
end Mi

set_option maxRecDepth 100000
set_option maxHeartbeats 4000000
/-! printed by gen.py: the meanings of the defs -/
namespace W
open PySem PySem.Spec L2 Mi
def top (i : Nat) : Stmt := PySem.Challenge.pw_untaughthelm_k06_rows_and_tables.main.body.getD i (.Pass ⟨0, 0, 0, 0⟩)
abbrev s__law_gcd : Stmt := top 37
abbrev N__law_gcd : List Str := ["one", "other"]
noncomputable def c0__law_gcd : MT :=
    mTst (mOp aNe (mVar 1) (mC (.int 0)))
noncomputable def b1__law_gcd : MS :=
    mPar 0 1 (mCons (mVar 1) (mCons (mOp aMod (mCB aInt (mCons (mVar 0) (mNil))) (mVar 1)) (mNil)))
noncomputable def m__law_gcd : MS :=
    mSeq (mWhile c0__law_gcd b1__law_gcd)
    (mRet (mVar 0))
noncomputable def F__law_gcd : Fn := noX (fnOf m__law_gcd 2)
abbrev s__law_kinds_u0 : Stmt := top 48
abbrev N__law_kinds_u0 : List Str := ["thing", "deep", "part"]
def F__law_kinds_u0 : Fn := fun _ _ => .bad
abbrev s__law_unit : Stmt := top 43
abbrev N__law_unit : List Str := ["width", "place", "k"]
noncomputable def e0__law_unit : ME :=
    mIf (mTst (mOp aEq (mVar 2) (mVar 1))) (mTup (mCons (mC (.int 1)) (mCons (mC (.int 1)) (mNil)))) (mTup (mCons (mC (.int 0)) (mCons (mC (.int 1)) (mNil))))
noncomputable def m__law_unit : MS :=
    mRet (mCB aTuple (mCons (mLc [2] (iR1 (mCons (mVar 0) (mNil))) (gNm 2) mYes e0__law_unit) (mNil)))
noncomputable def F__law_unit : Fn := noX (fnOf m__law_unit 3)
abbrev s_turned : Stmt := top 26
abbrev N_turned : List Str := ["table", "place", "line"]
noncomputable def e0_turned : ME :=
    mOp aIx (mVar 2) (mVar 1)
noncomputable def e1_turned : ME :=
    mCB aTuple (mCons (mLc [2] (iSq (mVar 0)) (gNm 2) mYes e0_turned) (mNil))
noncomputable def m_turned : MS :=
    mRet (mCB aTuple (mCons (mLc [1] (iR1 (mCons (mCB aLen (mCons (mOp aIx (mVar 0) (mC (.int 0))) (mNil))) (mNil))) (gNm 1) mYes e1_turned) (mNil)))
noncomputable def F_turned : Fn := noX (fnOf m_turned 3)
abbrev s_lowest : Stmt := top 10
abbrev N_lowest : List Str := ["top", "bottom", "common"]
noncomputable def m_lowest : MS :=
    mSeq (mIfS (mTst (mOp aEq (mVar 1) (mC (.int 1)))) (mRet (mTup (mCons (mVar 0) (mCons (mC (.int 1)) (mNil))))) (mNext))
    (mSeq (mAsg (mCB aGcd (mCons (mVar 0) (mCons (mVar 1) (mNil)))) (gNm 2))
    (mRet (mTup (mCons (mOp aFdiv (mVar 0) (mVar 2)) (mCons (mOp aFdiv (mVar 1) (mVar 2)) (mNil))))))
noncomputable def F_lowest : Fn := noX (fnOf m_lowest 3)
abbrev s_zero_row : Stmt := top 17
abbrev N_zero_row : List Str := ["width", "place"]
noncomputable def e0_zero_row : ME :=
    mC (.tup [.int 0, .int 1])
noncomputable def m_zero_row : MS :=
    mRet (mCB aTuple (mCons (mLc [1] (iR1 (mCons (mVar 0) (mNil))) (gNm 1) mYes e0_zero_row) (mNil)))
noncomputable def F_zero_row : Fn := noX (fnOf m_zero_row 2)
abbrev s__law_zero : Stmt := top 44
abbrev N__law_zero : List Str := ["width", "k"]
noncomputable def e0__law_zero : ME :=
    mTup (mCons (mC (.int 0)) (mCons (mC (.int 1)) (mNil)))
noncomputable def m__law_zero : MS :=
    mRet (mCB aTuple (mCons (mLc [1] (iR1 (mCons (mVar 0) (mNil))) (gNm 1) mYes e0__law_zero) (mNil)))
noncomputable def F__law_zero : Fn := noX (fnOf m__law_zero 2)
abbrev s_unit_row : Stmt := top 18
abbrev N_unit_row : List Str := ["width", "place", "k"]
noncomputable def e0_unit_row : ME :=
    mIf (mTst (mOp aEq (mVar 2) (mVar 1))) (mC (.tup [.int 1, .int 1])) (mC (.tup [.int 0, .int 1]))
noncomputable def m_unit_row : MS :=
    mRet (mCB aTuple (mCons (mLc [2] (iR1 (mCons (mVar 0) (mNil))) (gNm 2) mYes e0_unit_row) (mNil)))
noncomputable def F_unit_row : Fn := noX (fnOf m_unit_row 3)
abbrev s__law_draw : Stmt := top 35
abbrev N__law_draw : List Str := ["bag", "limit", "digit", "turn", "cells", "cell", "mixed"]
noncomputable def m__law_draw : MS :=
    mSeq (mIfS (mTst (mOp aGt (mOp aIx (mVar 0) (mC (.int 2))) (mC (.int 0)))) (mSeq (mAsg (mOp aMod (mCB aInt (mCons (mOp aIx (mVar 0) (mC (.int 2))) (mNil))) (mVar 1)) (gNm 2))
    (mSeq (mSetIx (mVar 0) (mC (.int 2)) (mOp aFdiv (mOp aIx (mVar 0) (mC (.int 2))) (mVar 1)))
    (mRet (mVar 2)))) (mNext))
    (mSeq (mAsg (mOp aIx (mVar 0) (mC (.int 1))) (gNm 3))
    (mSeq (mSetIx (mVar 0) (mC (.int 1)) (mOp aAdd (mVar 3) (mC (.int 1))))
    (mSeq (mAsg (mOp aIx (mVar 0) (mC (.int 0))) (gNm 4))
    (mSeq (mAsg (mOp aIx (mVar 4) (mOp aMod (mCB aInt (mCons (mVar 3) (mNil))) (mCB aLen (mCons (mVar 4) (mNil))))) (gNm 5))
    (mSeq (mIfS (mAnd (mTst (mOp aLt (mVar 3) (mCB aLen (mCons (mVar 4) (mNil))))) (mTst (mOp aGe (mVar 5) (mOp aPow (mC (.int 10)) (mC (.int 18)))))) (mSeq (mSetIx (mVar 0) (mC (.int 2)) (mOp aFdiv (mVar 5) (mVar 1)))
    (mRet (mOp aMod (mCB aInt (mCons (mVar 5) (mNil))) (mVar 1)))) (mNext))
    (mSeq (mAsg (mOp aMod (mCB aInt (mCons (mOp aAdd (mOp aAdd (mOp aMul (mOp aAdd (mVar 5) (mC (.int 17))) (mC (.int 48271))) (mOp aMul (mOp aMul (mVar 3) (mVar 3)) (mC (.int 7919)))) (mOp aMul (mVar 3) (mC (.int 104729)))) (mNil))) (mC (.int 2147483647))) (gNm 6))
    (mSeq (mAsg (mOp aMod (mCB aInt (mCons (mOp aAdd (mOp aMul (mVar 6) (mC (.int 69621))) (mOp aMul (mOp aAdd (mVar 3) (mC (.int 3))) (mC (.int 40692)))) (mNil))) (mC (.int 2147483399))) (gNm 6))
    (mRet (mOp aMod (mCB aInt (mCons (mOp aFdiv (mVar 6) (mC (.int 8))) (mNil))) (mVar 1))))))))))
noncomputable def F__law_draw : Fn := noX (fnOf m__law_draw 7)
abbrev s_is_prime : Stmt := top 30
abbrev N_is_prime : List Str := ["many", "part"]
noncomputable def b0_is_prime : MS :=
    mIfS (mTst (mOp aEq (mOp aMod (mVar 0) (mVar 1)) (mC (.int 0)))) (mRet (mC (.bl false))) (mNext)
noncomputable def m_is_prime : MS :=
    mSeq (mFor (iR2 (mCons (mC (.int 2)) (mCons (mVar 0) (mNil)))) (gNm 1) b0_is_prime)
    (mRet (mC (.bl true)))
noncomputable def F_is_prime : Fn := noX (fnOf m_is_prime 2)
abbrev s_is_whole : Stmt := top 9
abbrev N_is_whole : List Str := ["thing", "low", "high"]
noncomputable def m_is_whole : MS :=
    mSeq (mIfS (mOr (mNot (mTru (mCB (aIsi "int") (mCons (mVar 0) (mCons (mC (.ty "int")) (mNil)))))) (mTru (mCB (aIsi "bool") (mCons (mVar 0) (mCons (mC (.ty "bool")) (mNil)))))) (mRet (mC (.bl false))) (mNext))
    (mRet (mAndV (mOrV (mOp aIs (mVar 1) (mC .non)) (mOp aGe (mVar 0) (mVar 1))) (mOrV (mOp aIs (mVar 2) (mC .non)) (mOp aLe (mVar 0) (mVar 2)))))
noncomputable def F_is_whole : Fn := noX (fnOf m_is_whole 3)
abbrev s__law_bag : Stmt := top 34
abbrev N__law_bag : List Str := ["script", "cells", "cell"]
noncomputable def e0__law_bag : ME :=
    mCB aAbs (mCons (mVar 2) (mNil))
noncomputable def m__law_bag : MS :=
    mSeq (mAsg (mLc [2] (iSq (mSl (mVar 0) oNone (oSome (mC (.int 63))))) (gNm 2) mYes e0__law_bag) (gNm 1))
    (mSeq (mIfS (mTst (mOp aEq (mCB aLen (mCons (mVar 1) (mNil))) (mC (.int 0)))) (mAsg (mLst (mCons (mC (.int 5)) (mNil))) (gNm 1)) (mNext))
    (mRet (mLstC (mCons (mVar 1) (mCons (mC (.int 0)) (mCons (mC (.int 0)) (mNil)))))))
noncomputable def F__law_bag : Fn := noX (fnOf m__law_bag 3)
abbrev s__law_make : Stmt := top 38
abbrev N__law_make : List Str := ["p", "top", "bottom", "found", "k", "common"]
noncomputable def b0__law_make : MS :=
    mIfS (mTst (mOp aEq (mOp aMod (mCB aInt (mCons (mOp aMul (mVar 2) (mVar 4)) (mNil))) (mVar 0)) (mC (.int 1)))) (mAsg (mVar 4) (gNm 3)) (mNext)
noncomputable def m__law_make : MS :=
    mSeq (mIfS (mTst (mOp aGt (mVar 0) (mC (.int 0)))) (mSeq (mAsg (mC (.int 0)) (gNm 3))
    (mSeq (mFor (iR1 (mCons (mVar 0) (mNil))) (gNm 4) b0__law_make)
    (mRet (mTup (mCons (mOp aMod (mCB aInt (mCons (mOp aMul (mVar 1) (mVar 3)) (mNil))) (mVar 0)) (mCons (mC (.int 1)) (mNil))))))) (mNext))
    (mSeq (mIfS (mTst (mOp aLt (mVar 2) (mC (.int 0)))) (mPar 1 2 (mCons (mOp aSub (mC (.int 0)) (mVar 1)) (mCons (mOp aSub (mC (.int 0)) (mVar 2)) (mNil)))) (mNext))
    (mSeq (mAsg (mCall 2 F__law_gcd [] (mCons (mCB aAbs (mCons (mVar 1) (mNil))) (mCons (mVar 2) (mNil)))) (gNm 5))
    (mRet (mTup (mCons (mOp aFdiv (mVar 1) (mVar 5)) (mCons (mOp aFdiv (mVar 2) (mVar 5)) (mNil)))))))
noncomputable def F__law_make : Fn := noX (fnOf m__law_make 6)
abbrev s__law_kinds_u1 : Stmt := top 48
abbrev N__law_kinds_u1 : List Str := ["thing", "deep", "part"]
noncomputable def e0__law_kinds_u1 : ME :=
    mCall 2 F__law_kinds_u0 [] (mCons (mVar 2) (mCons (mOp aSub (mVar 1) (mC (.int 1))) (mNil)))
noncomputable def m__law_kinds_u1 : MS :=
    mSeq (mIfS (mTru (mCB (aIsi "tuple") (mCons (mVar 0) (mCons (mC (.ty "tuple")) (mNil))))) (mRet (mAndV (mOp aGt (mVar 1) (mC (.int 0))) (mCB (onL fAll) (mCons (mLc [2] (iSq (mVar 0)) (gNm 2) mYes e0__law_kinds_u1) (mNil))))) (mNext))
    (mRet (mOrV (mOp aIs (mVar 0) (mC .non)) (mOrV (mCB (aIsi "str") (mCons (mVar 0) (mCons (mC (.ty "str")) (mNil)))) (mAndV (mCB (aIsi "int") (mCons (mVar 0) (mCons (mC (.ty "int")) (mNil)))) (mNotT (mCB (aIsi "bool") (mCons (mVar 0) (mCons (mC (.ty "bool")) (mNil)))))))))
noncomputable def F__law_kinds_u1 : Fn := noX (fnOf m__law_kinds_u1 3)
abbrev s_ratio_times : Stmt := top 14
abbrev N_ratio_times : List Str := ["one", "other"]
noncomputable def m_ratio_times : MS :=
    mRet (mCall 2 F_lowest [] (mCons (mOp aMul (mOp aIx (mVar 0) (mC (.int 0))) (mOp aIx (mVar 1) (mC (.int 0)))) (mCons (mOp aMul (mOp aIx (mVar 0) (mC (.int 1))) (mOp aIx (mVar 1) (mC (.int 1)))) (mNil))))
noncomputable def F_ratio_times : Fn := noX (fnOf m_ratio_times 2)
abbrev s_ratio_plus : Stmt := top 12
abbrev N_ratio_plus : List Str := ["one", "other"]
noncomputable def m_ratio_plus : MS :=
    mRet (mCall 2 F_lowest [] (mCons (mOp aAdd (mOp aMul (mOp aIx (mVar 0) (mC (.int 0))) (mOp aIx (mVar 1) (mC (.int 1)))) (mOp aMul (mOp aIx (mVar 1) (mC (.int 0))) (mOp aIx (mVar 0) (mC (.int 1))))) (mCons (mOp aMul (mOp aIx (mVar 0) (mC (.int 1))) (mOp aIx (mVar 1) (mC (.int 1)))) (mNil))))
noncomputable def F_ratio_plus : Fn := noX (fnOf m_ratio_plus 2)
abbrev s_ratio_minus : Stmt := top 13
abbrev N_ratio_minus : List Str := ["one", "other"]
noncomputable def m_ratio_minus : MS :=
    mRet (mCall 2 F_lowest [] (mCons (mOp aSub (mOp aMul (mOp aIx (mVar 0) (mC (.int 0))) (mOp aIx (mVar 1) (mC (.int 1)))) (mOp aMul (mOp aIx (mVar 1) (mC (.int 0))) (mOp aIx (mVar 0) (mC (.int 1))))) (mCons (mOp aMul (mOp aIx (mVar 0) (mC (.int 1))) (mOp aIx (mVar 1) (mC (.int 1)))) (mNil))))
noncomputable def F_ratio_minus : Fn := noX (fnOf m_ratio_minus 2)
abbrev s_unit_table : Stmt := top 19
abbrev N_unit_table : List Str := ["width", "place"]
noncomputable def e0_unit_table : ME :=
    mCall 2 F_unit_row [] (mCons (mVar 0) (mCons (mVar 1) (mNil)))
noncomputable def m_unit_table : MS :=
    mRet (mCB aTuple (mCons (mLc [1] (iR1 (mCons (mVar 0) (mNil))) (gNm 1) mYes e0_unit_table) (mNil)))
noncomputable def F_unit_table : Fn := noX (fnOf m_unit_table 2)
abbrev s__law_list : Stmt := top 47
abbrev N__law_list : List Str := ["bag", "row"]
noncomputable def m__law_list : MS :=
    mSeq (mIfS (mTst (mOp aEq (mCall 2 F__law_draw [] (mCons (mVar 0) (mCons (mC (.int 2)) (mNil)))) (mC (.int 1)))) (mRet (mCB aList (mCons (mVar 1) (mNil)))) (mNext))
    (mRet (mCB aTuple (mCons (mVar 1) (mNil))))
noncomputable def F__law_list : Fn := noX (fnOf m__law_list 2)
abbrev s_Field___init__ : Stmt := inClass (top 32) 0
abbrev N_Field___init__ : List Str := ["self", "prime"]
noncomputable def m_Field___init__ : MS :=
    mSeq (mIfS (mTst (mOp aIsNot (mVar 1) (mC .non))) (mIfS (mOr (mNot (mTru (mCall 3 F_is_whole [] (mCons (mVar 1) (mCons (mC (.int 2)) (mCons (mC (.int 97)) (mNil))))))) (mNot (mTru (mCall 1 F_is_prime [] (mCons (mVar 1) (mNil)))))) (mNever) (mNext)) (mNext))
    (mSetAt ["Field"] "prime" (mVar 0) (mVar 1))
noncomputable def F_Field___init__ : Fn := noX (fnOf m_Field___init__ 2)
abbrev s__law_prime : Stmt := top 36
abbrev N__law_prime : List Str := ["bag"]
noncomputable def m__law_prime : MS :=
    mRet (mOp aIx (mLst (mCons (mC (.int 0)) (mCons (mC (.int 0)) (mCons (mC (.int 2)) (mCons (mC (.int 3)) (mCons (mC (.int 5)) (mCons (mC (.int 7)) (mNil)))))))) (mCall 2 F__law_draw [] (mCons (mVar 0) (mCons (mC (.int 6)) (mNil)))))
noncomputable def F__law_prime : Fn := noX (fnOf m__law_prime 1)
abbrev s__law_times : Stmt := top 40
abbrev N__law_times : List Str := ["p", "one", "other"]
noncomputable def m__law_times : MS :=
    mSeq (mIfS (mTst (mOp aGt (mVar 0) (mC (.int 0)))) (mRet (mTup (mCons (mOp aMod (mCB aInt (mCons (mOp aMul (mOp aIx (mVar 1) (mC (.int 0))) (mOp aIx (mVar 2) (mC (.int 0)))) (mNil))) (mVar 0)) (mCons (mC (.int 1)) (mNil))))) (mNext))
    (mRet (mCall 3 F__law_make [] (mCons (mC (.int 0)) (mCons (mOp aMul (mOp aIx (mVar 1) (mC (.int 0))) (mOp aIx (mVar 2) (mC (.int 0)))) (mCons (mOp aMul (mOp aIx (mVar 1) (mC (.int 1))) (mOp aIx (mVar 2) (mC (.int 1)))) (mNil))))))
noncomputable def F__law_times : Fn := noX (fnOf m__law_times 3)
abbrev s__law_plus : Stmt := top 39
abbrev N__law_plus : List Str := ["p", "one", "other"]
noncomputable def m__law_plus : MS :=
    mSeq (mIfS (mTst (mOp aGt (mVar 0) (mC (.int 0)))) (mRet (mTup (mCons (mOp aMod (mCB aInt (mCons (mOp aAdd (mOp aIx (mVar 1) (mC (.int 0))) (mOp aIx (mVar 2) (mC (.int 0)))) (mNil))) (mVar 0)) (mCons (mC (.int 1)) (mNil))))) (mNext))
    (mRet (mCall 3 F__law_make [] (mCons (mC (.int 0)) (mCons (mOp aAdd (mOp aMul (mOp aIx (mVar 1) (mC (.int 0))) (mOp aIx (mVar 2) (mC (.int 1)))) (mOp aMul (mOp aIx (mVar 2) (mC (.int 0))) (mOp aIx (mVar 1) (mC (.int 1))))) (mCons (mOp aMul (mOp aIx (mVar 1) (mC (.int 1))) (mOp aIx (mVar 2) (mC (.int 1)))) (mNil))))))
noncomputable def F__law_plus : Fn := noX (fnOf m__law_plus 3)
abbrev s__law_kinds_u2 : Stmt := top 48
abbrev N__law_kinds_u2 : List Str := ["thing", "deep", "part"]
noncomputable def e0__law_kinds_u2 : ME :=
    mCall 2 F__law_kinds_u1 [] (mCons (mVar 2) (mCons (mOp aSub (mVar 1) (mC (.int 1))) (mNil)))
noncomputable def m__law_kinds_u2 : MS :=
    mSeq (mIfS (mTru (mCB (aIsi "tuple") (mCons (mVar 0) (mCons (mC (.ty "tuple")) (mNil))))) (mRet (mAndV (mOp aGt (mVar 1) (mC (.int 0))) (mCB (onL fAll) (mCons (mLc [2] (iSq (mVar 0)) (gNm 2) mYes e0__law_kinds_u2) (mNil))))) (mNext))
    (mRet (mOrV (mOp aIs (mVar 0) (mC .non)) (mOrV (mCB (aIsi "str") (mCons (mVar 0) (mCons (mC (.ty "str")) (mNil)))) (mAndV (mCB (aIsi "int") (mCons (mVar 0) (mCons (mC (.ty "int")) (mNil)))) (mNotT (mCB (aIsi "bool") (mCons (mVar 0) (mCons (mC (.ty "bool")) (mNil)))))))))
noncomputable def F__law_kinds_u2 : Fn := noX (fnOf m__law_kinds_u2 3)
abbrev s_Field_times : Stmt := inClass (top 32) 7
abbrev N_Field_times : List Str := ["self", "one", "other"]
noncomputable def m_Field_times : MS :=
    mSeq (mIfS (mTst (mOp aIs (mAt ["Field"] "prime" (mVar 0)) (mC .non))) (mRet (mCall 2 F_ratio_times [] (mCons (mVar 1) (mCons (mVar 2) (mNil))))) (mNext))
    (mRet (mTup (mCons (mOp aMod (mOp aMul (mOp aIx (mVar 1) (mC (.int 0))) (mOp aIx (mVar 2) (mC (.int 0)))) (mAt ["Field"] "prime" (mVar 0))) (mCons (mC (.int 1)) (mNil)))))
noncomputable def F_Field_times : Fn := noX (fnOf m_Field_times 3)
abbrev s_Field_plus : Stmt := inClass (top 32) 5
abbrev N_Field_plus : List Str := ["self", "one", "other"]
noncomputable def m_Field_plus : MS :=
    mSeq (mIfS (mTst (mOp aIs (mAt ["Field"] "prime" (mVar 0)) (mC .non))) (mRet (mCall 2 F_ratio_plus [] (mCons (mVar 1) (mCons (mVar 2) (mNil))))) (mNext))
    (mRet (mTup (mCons (mOp aMod (mOp aAdd (mOp aIx (mVar 1) (mC (.int 0))) (mOp aIx (mVar 2) (mC (.int 0)))) (mAt ["Field"] "prime" (mVar 0))) (mCons (mC (.int 1)) (mNil)))))
noncomputable def F_Field_plus : Fn := noX (fnOf m_Field_plus 3)
abbrev s_Field_minus : Stmt := inClass (top 32) 6
abbrev N_Field_minus : List Str := ["self", "one", "other"]
noncomputable def m_Field_minus : MS :=
    mSeq (mIfS (mTst (mOp aIs (mAt ["Field"] "prime" (mVar 0)) (mC .non))) (mRet (mCall 2 F_ratio_minus [] (mCons (mVar 1) (mCons (mVar 2) (mNil))))) (mNext))
    (mRet (mTup (mCons (mOp aMod (mOp aSub (mOp aIx (mVar 1) (mC (.int 0))) (mOp aIx (mVar 2) (mC (.int 0)))) (mAt ["Field"] "prime" (mVar 0))) (mCons (mC (.int 1)) (mNil)))))
noncomputable def F_Field_minus : Fn := noX (fnOf m_Field_minus 3)
abbrev s__law_number : Stmt := top 45
abbrev N__law_number : List Str := ["bag", "p"]
noncomputable def m__law_number : MS :=
    mSeq (mIfS (mTst (mOp aGt (mVar 1) (mC (.int 0)))) (mRet (mTup (mCons (mCall 2 F__law_draw [] (mCons (mVar 0) (mCons (mVar 1) (mNil)))) (mCons (mC (.int 1)) (mNil))))) (mNext))
    (mRet (mCall 3 F__law_make [] (mCons (mC (.int 0)) (mCons (mOp aSub (mCall 2 F__law_draw [] (mCons (mVar 0) (mCons (mC (.int 7)) (mNil)))) (mC (.int 3))) (mCons (mOp aIx (mLst (mCons (mC (.int 1)) (mCons (mC (.int 1)) (mCons (mC (.int 1)) (mCons (mC (.int 2)) (mCons (mC (.int 3)) (mNil))))))) (mCall 2 F__law_draw [] (mCons (mVar 0) (mCons (mC (.int 5)) (mNil))))) (mNil))))))
noncomputable def F__law_number : Fn := noX (fnOf m__law_number 2)
abbrev s__law_dot : Stmt := top 42
abbrev N__law_dot : List Str := ["p", "one", "other", "total", "k"]
noncomputable def b0__law_dot : MS :=
    mIfS (mAnd (mTst (mOp aNe (mOp aIx (mOp aIx (mVar 1) (mVar 4)) (mC (.int 0))) (mC (.int 0)))) (mTst (mOp aNe (mOp aIx (mOp aIx (mVar 2) (mVar 4)) (mC (.int 0))) (mC (.int 0))))) (mAsg (mCall 3 F__law_plus [] (mCons (mVar 0) (mCons (mVar 3) (mCons (mCall 3 F__law_times [] (mCons (mVar 0) (mCons (mOp aIx (mVar 1) (mVar 4)) (mCons (mOp aIx (mVar 2) (mVar 4)) (mNil))))) (mNil))))) (gNm 3)) (mNext)
noncomputable def m__law_dot : MS :=
    mSeq (mAsg (mTup (mCons (mC (.int 0)) (mCons (mC (.int 1)) (mNil)))) (gNm 3))
    (mSeq (mFor (iR1 (mCons (mCB aLen (mCons (mVar 1) (mNil))) (mNil))) (gNm 4) b0__law_dot)
    (mRet (mVar 3)))
noncomputable def F__law_dot : Fn := noX (fnOf m__law_dot 5)
abbrev s__law_kinds_u3 : Stmt := top 48
abbrev N__law_kinds_u3 : List Str := ["thing", "deep", "part"]
noncomputable def e0__law_kinds_u3 : ME :=
    mCall 2 F__law_kinds_u2 [] (mCons (mVar 2) (mCons (mOp aSub (mVar 1) (mC (.int 1))) (mNil)))
noncomputable def m__law_kinds_u3 : MS :=
    mSeq (mIfS (mTru (mCB (aIsi "tuple") (mCons (mVar 0) (mCons (mC (.ty "tuple")) (mNil))))) (mRet (mAndV (mOp aGt (mVar 1) (mC (.int 0))) (mCB (onL fAll) (mCons (mLc [2] (iSq (mVar 0)) (gNm 2) mYes e0__law_kinds_u3) (mNil))))) (mNext))
    (mRet (mOrV (mOp aIs (mVar 0) (mC .non)) (mOrV (mCB (aIsi "str") (mCons (mVar 0) (mCons (mC (.ty "str")) (mNil)))) (mAndV (mCB (aIsi "int") (mCons (mVar 0) (mCons (mC (.ty "int")) (mNil)))) (mNotT (mCB (aIsi "bool") (mCons (mVar 0) (mCons (mC (.ty "bool")) (mNil)))))))))
noncomputable def F__law_kinds_u3 : Fn := noX (fnOf m__law_kinds_u3 3)
abbrev s__law_minus : Stmt := top 41
abbrev N__law_minus : List Str := ["p", "one", "other"]
noncomputable def m__law_minus : MS :=
    mRet (mCall 3 F__law_plus [] (mCons (mVar 0) (mCons (mVar 1) (mCons (mCall 3 F__law_times [] (mCons (mVar 0) (mCons (mCall 3 F__law_make [] (mCons (mVar 0) (mCons (mOp aSub (mC (.int 0)) (mC (.int 1))) (mCons (mC (.int 1)) (mNil))))) (mCons (mVar 2) (mNil))))) (mNil)))))
noncomputable def F__law_minus : Fn := noX (fnOf m__law_minus 3)
abbrev s_row_times : Stmt := top 22
abbrev N_row_times : List Str := ["field", "number", "row", "part"]
noncomputable def e0_row_times : ME :=
    mMeth "Field" "times" 3 F_Field_times [] (mVar 0) (mCons (mVar 1) (mCons (mVar 3) (mNil)))
noncomputable def m_row_times : MS :=
    mRet (mCB aTuple (mCons (mLc [3] (iSq (mVar 2)) (gNm 3) mYes e0_row_times) (mNil)))
noncomputable def F_row_times : Fn := noX (fnOf m_row_times 4)
abbrev s_row_plus : Stmt := top 20
abbrev N_row_plus : List Str := ["field", "one", "other", "left", "right"]
noncomputable def e0_row_plus : ME :=
    mMeth "Field" "plus" 3 F_Field_plus [] (mVar 0) (mCons (mVar 3) (mCons (mVar 4) (mNil)))
noncomputable def m_row_plus : MS :=
    mRet (mCB aTuple (mCons (mLc [3, 4] (iZp (mCons (mVar 1) (mCons (mVar 2) (mNil)))) (gTp 2 (gsCons (gNm 3) (gsCons (gNm 4) gsNil))) mYes e0_row_plus) (mNil)))
noncomputable def F_row_plus : Fn := noX (fnOf m_row_plus 5)
abbrev s_dot : Stmt := top 23
abbrev N_dot : List Str := ["field", "one", "other", "total", "left", "right"]
noncomputable def b0_dot : MS :=
    mIfS (mAnd (mTst (mOp aNe (mVar 4) (mC (.tup [.int 0, .int 1])))) (mTst (mOp aNe (mVar 5) (mC (.tup [.int 0, .int 1]))))) (mAsg (mMeth "Field" "plus" 3 F_Field_plus [] (mVar 0) (mCons (mVar 3) (mCons (mMeth "Field" "times" 3 F_Field_times [] (mVar 0) (mCons (mVar 4) (mCons (mVar 5) (mNil)))) (mNil)))) (gNm 3)) (mNext)
noncomputable def m_dot : MS :=
    mSeq (mAsg (mC (.tup [.int 0, .int 1])) (gNm 3))
    (mSeq (mFor (iZp (mCons (mVar 1) (mCons (mVar 2) (mNil)))) (gTp 2 (gsCons (gNm 4) (gsCons (gNm 5) gsNil))) b0_dot)
    (mRet (mVar 3)))
noncomputable def F_dot : Fn := noX (fnOf m_dot 6)
abbrev s_row_minus : Stmt := top 21
abbrev N_row_minus : List Str := ["field", "one", "other", "left", "right"]
noncomputable def e0_row_minus : ME :=
    mMeth "Field" "minus" 3 F_Field_minus [] (mVar 0) (mCons (mVar 3) (mCons (mVar 4) (mNil)))
noncomputable def m_row_minus : MS :=
    mRet (mCB aTuple (mCons (mLc [3, 4] (iZp (mCons (mVar 1) (mCons (mVar 2) (mNil)))) (gTp 2 (gsCons (gNm 3) (gsCons (gNm 4) gsNil))) mYes e0_row_minus) (mNil)))
noncomputable def F_row_minus : Fn := noX (fnOf m_row_minus 5)
abbrev s__law_row : Stmt := top 46
abbrev N__law_row : List Str := ["bag", "p", "width", "k"]
noncomputable def e0__law_row : ME :=
    mCall 2 F__law_number [] (mCons (mVar 0) (mCons (mVar 1) (mNil)))
noncomputable def m__law_row : MS :=
    mRet (mCB aTuple (mCons (mLc [3] (iR1 (mCons (mVar 2) (mNil))) (gNm 3) mYes e0__law_row) (mNil)))
noncomputable def F__law_row : Fn := noX (fnOf m__law_row 4)
abbrev s__law_kinds_u4 : Stmt := top 48
abbrev N__law_kinds_u4 : List Str := ["thing", "deep", "part"]
noncomputable def e0__law_kinds_u4 : ME :=
    mCall 2 F__law_kinds_u3 [] (mCons (mVar 2) (mCons (mOp aSub (mVar 1) (mC (.int 1))) (mNil)))
noncomputable def m__law_kinds_u4 : MS :=
    mSeq (mIfS (mTru (mCB (aIsi "tuple") (mCons (mVar 0) (mCons (mC (.ty "tuple")) (mNil))))) (mRet (mAndV (mOp aGt (mVar 1) (mC (.int 0))) (mCB (onL fAll) (mCons (mLc [2] (iSq (mVar 0)) (gNm 2) mYes e0__law_kinds_u4) (mNil))))) (mNext))
    (mRet (mOrV (mOp aIs (mVar 0) (mC .non)) (mOrV (mCB (aIsi "str") (mCons (mVar 0) (mCons (mC (.ty "str")) (mNil)))) (mAndV (mCB (aIsi "int") (mCons (mVar 0) (mCons (mC (.ty "int")) (mNil)))) (mNotT (mCB (aIsi "bool") (mCons (mVar 0) (mCons (mC (.ty "bool")) (mNil)))))))))
noncomputable def F__law_kinds_u4 : Fn := noX (fnOf m__law_kinds_u4 3)
abbrev s_row_table : Stmt := top 25
abbrev N_row_table : List Str := ["field", "row", "table", "width", "wide", "total", "number", "line"]
noncomputable def b0_row_table : MS :=
    mIfS (mTst (mOp aNe (mVar 6) (mC (.tup [.int 0, .int 1])))) (mAsg (mCall 3 F_row_plus [] (mCons (mVar 0) (mCons (mVar 5) (mCons (mCall 3 F_row_times [] (mCons (mVar 0) (mCons (mVar 6) (mCons (mVar 7) (mNil))))) (mNil))))) (gNm 5)) (mNext)
noncomputable def m_row_table : MS :=
    mSeq (mAsg (mIf (mTst (mOp aIsNot (mVar 3) (mC .non))) (mVar 3) (mCB aLen (mCons (mOp aIx (mVar 2) (mC (.int 0))) (mNil)))) (gNm 4))
    (mSeq (mAsg (mCall 1 F_zero_row [] (mCons (mVar 4) (mNil))) (gNm 5))
    (mSeq (mFor (iZp (mCons (mVar 1) (mCons (mVar 2) (mNil)))) (gTp 2 (gsCons (gNm 6) (gsCons (gNm 7) gsNil))) b0_row_table)
    (mRet (mVar 5))))
noncomputable def F_row_table : Fn := noX (fnOf m_row_table 8)
abbrev s_table_row : Stmt := top 24
abbrev N_table_row : List Str := ["field", "table", "row", "line"]
noncomputable def e0_table_row : ME :=
    mCall 3 F_dot [] (mCons (mVar 0) (mCons (mVar 3) (mCons (mVar 2) (mNil))))
noncomputable def m_table_row : MS :=
    mRet (mCB aTuple (mCons (mLc [3] (iSq (mVar 1)) (gNm 3) mYes e0_table_row) (mNil)))
noncomputable def F_table_row : Fn := noX (fnOf m_table_row 4)
abbrev s_table_plus : Stmt := top 28
abbrev N_table_plus : List Str := ["field", "one", "other", "left", "right"]
noncomputable def e0_table_plus : ME :=
    mCall 3 F_row_plus [] (mCons (mVar 0) (mCons (mVar 3) (mCons (mVar 4) (mNil))))
noncomputable def m_table_plus : MS :=
    mRet (mCB aTuple (mCons (mLc [3, 4] (iZp (mCons (mVar 1) (mCons (mVar 2) (mNil)))) (gTp 2 (gsCons (gNm 3) (gsCons (gNm 4) gsNil))) mYes e0_table_plus) (mNil)))
noncomputable def F_table_plus : Fn := noX (fnOf m_table_plus 5)
abbrev s_table_table : Stmt := top 27
abbrev N_table_table : List Str := ["field", "one", "other", "line"]
noncomputable def e0_table_table : ME :=
    mCall 4 F_row_table [.non] (mCons (mVar 0) (mCons (mVar 3) (mCons (mVar 2) (mNil))))
noncomputable def m_table_table : MS :=
    mRet (mCB aTuple (mCons (mLc [3] (iSq (mVar 1)) (gNm 3) mYes e0_table_table) (mNil)))
noncomputable def F_table_table : Fn := noX (fnOf m_table_table 4)
abbrev s__law_tables_right : Stmt := top 49
abbrev N__law_tables_right : List Str := ["bag", "p", "field", "width", "height", "far", "one", "two", "other", "number", "weights", "row", "passed", "kept", "place", "columns", "mixed", "told", "due", "added", "k", "line", "part", "i", "thing"]
noncomputable def e0__law_tables_right : ME :=
    mCall 2 F__law_kinds_u4 [] (mCons (mVar 24) (mCons (mC (.int 3)) (mNil)))
noncomputable def e1__law_tables_right : ME :=
    mCall 3 F__law_plus [] (mCons (mVar 1) (mCons (mOp aIx (mOp aIx (mVar 6) (mVar 20)) (mVar 23)) (mCons (mOp aIx (mOp aIx (mVar 7) (mVar 20)) (mVar 23)) (mNil))))
noncomputable def b2__law_tables_right : MS :=
    mDrop (mApp (mVar 19) (mCB aTuple (mCons (mLc [23] (iR1 (mCons (mVar 3) (mNil))) (gNm 23) mYes e1__law_tables_right) (mNil))))
noncomputable def e3__law_tables_right : ME :=
    mOp aIx (mVar 21) (mVar 20)
noncomputable def e4__law_tables_right : ME :=
    mCB aTuple (mCons (mLc [21] (iSq (mVar 6)) (gNm 21) mYes e3__law_tables_right) (mNil))
noncomputable def e5__law_tables_right : ME :=
    mCall 3 F__law_dot [] (mCons (mVar 1) (mCons (mVar 21) (mCons (mVar 22) (mNil))))
noncomputable def e6__law_tables_right : ME :=
    mCB aTuple (mCons (mLc [22] (iSq (mVar 15)) (gNm 22) mYes e5__law_tables_right) (mNil))
noncomputable def e7__law_tables_right : ME :=
    mCall 3 F__law_dot [] (mCons (mVar 1) (mCons (mVar 21) (mCons (mVar 11) (mNil))))
noncomputable def e8__law_tables_right : ME :=
    mCall 3 F__law_times [] (mCons (mVar 1) (mCons (mVar 9) (mCons (mVar 22) (mNil))))
noncomputable def e9__law_tables_right : ME :=
    mCall 3 F__law_minus [] (mCons (mVar 1) (mCons (mOp aIx (mOp aIx (mVar 6) (mC (.int 0))) (mVar 20)) (mCons (mOp aIx (mVar 11) (mVar 20)) (mNil))))
noncomputable def e10__law_tables_right : ME :=
    mCall 3 F__law_plus [] (mCons (mVar 1) (mCons (mOp aIx (mOp aIx (mVar 6) (mC (.int 0))) (mVar 20)) (mCons (mOp aIx (mVar 11) (mVar 20)) (mNil))))
noncomputable def e11__law_tables_right : ME :=
    mCall 2 F__law_unit [] (mCons (mVar 3) (mCons (mVar 20) (mNil)))
noncomputable def e12__law_tables_right : ME :=
    mOp aIx (mVar 21) (mVar 20)
noncomputable def e13__law_tables_right : ME :=
    mCall 3 F__law_dot [] (mCons (mVar 1) (mCons (mVar 10) (mCons (mLc [21] (iSq (mVar 6)) (gNm 21) mYes e12__law_tables_right) (mNil))))
noncomputable def e14__law_tables_right : ME :=
    mOp aIx (mVar 21) (mVar 20)
noncomputable def e15__law_tables_right : ME :=
    mCB aTuple (mCons (mLc [21] (iSq (mVar 8)) (gNm 21) mYes e14__law_tables_right) (mNil))
noncomputable def e16__law_tables_right : ME :=
    mCall 2 F__law_list [] (mCons (mVar 0) (mCons (mVar 21) (mNil)))
noncomputable def e17__law_tables_right : ME :=
    mCall 3 F__law_row [] (mCons (mVar 0) (mCons (mVar 1) (mCons (mVar 5) (mNil))))
noncomputable def e18__law_tables_right : ME :=
    mCall 3 F__law_row [] (mCons (mVar 0) (mCons (mVar 1) (mCons (mVar 3) (mNil))))
noncomputable def e19__law_tables_right : ME :=
    mCall 3 F__law_row [] (mCons (mVar 0) (mCons (mVar 1) (mCons (mVar 3) (mNil))))
noncomputable def m__law_tables_right : MS :=
    mSeq (mAsg (mOp aAdd (mC (.int 1)) (mCall 2 F__law_draw [] (mCons (mVar 0) (mCons (mC (.int 5)) (mNil))))) (gNm 3))
    (mSeq (mAsg (mOp aAdd (mC (.int 1)) (mCall 2 F__law_draw [] (mCons (mVar 0) (mCons (mC (.int 4)) (mNil))))) (gNm 4))
    (mSeq (mAsg (mOp aAdd (mC (.int 1)) (mCall 2 F__law_draw [] (mCons (mVar 0) (mCons (mC (.int 4)) (mNil))))) (gNm 5))
    (mSeq (mAsg (mLc [20] (iR1 (mCons (mVar 4) (mNil))) (gNm 20) mYes e19__law_tables_right) (gNm 6))
    (mSeq (mAsg (mLc [20] (iR1 (mCons (mVar 4) (mNil))) (gNm 20) mYes e18__law_tables_right) (gNm 7))
    (mSeq (mAsg (mLc [20] (iR1 (mCons (mVar 3) (mNil))) (gNm 20) mYes e17__law_tables_right) (gNm 8))
    (mSeq (mAsg (mCall 2 F__law_number [] (mCons (mVar 0) (mCons (mVar 1) (mNil)))) (gNm 9))
    (mSeq (mAsg (mCall 3 F__law_row [] (mCons (mVar 0) (mCons (mVar 1) (mCons (mVar 4) (mNil))))) (gNm 10))
    (mSeq (mAsg (mCall 3 F__law_row [] (mCons (mVar 0) (mCons (mVar 1) (mCons (mVar 3) (mNil))))) (gNm 11))
    (mSeq (mAsg (mLc [21] (iSq (mVar 6)) (gNm 21) mYes e16__law_tables_right) (gNm 12))
    (mSeq (mAsg (mCB aRepr (mCons (mVar 12) (mNil))) (gNm 13))
    (mSeq (mAsg (mCall 2 F__law_draw [] (mCons (mVar 0) (mCons (mVar 3) (mNil)))) (gNm 14))
    (mSeq (mAsg (mLc [20] (iR1 (mCons (mVar 5) (mNil))) (gNm 20) mYes e15__law_tables_right) (gNm 15))
    (mSeq (mAsg (mCB aTuple (mCons (mLc [20] (iR1 (mCons (mVar 3) (mNil))) (gNm 20) mYes e13__law_tables_right) (mNil))) (gNm 16))
    (mSeq (mAsg (mLstC (mCons (mCall 1 F_zero_row [] (mCons (mVar 3) (mNil))) (mCons (mCall 2 F_unit_row [] (mCons (mVar 3) (mCons (mVar 14) (mNil)))) (mCons (mCall 1 F_unit_table [] (mCons (mVar 3) (mNil))) (mCons (mCall 3 F_dot [] (mCons (mVar 2) (mCons (mOp aIx (mVar 6) (mC (.int 0))) (mCons (mVar 11) (mNil))))) (mNil)))))) (gNm 17))
    (mSeq (mAsg (mLstC (mCons (mCall 1 F__law_zero [] (mCons (mVar 3) (mNil))) (mCons (mCall 2 F__law_unit [] (mCons (mVar 3) (mCons (mVar 14) (mNil)))) (mCons (mCB aTuple (mCons (mLc [20] (iR1 (mCons (mVar 3) (mNil))) (gNm 20) mYes e11__law_tables_right) (mNil))) (mCons (mCall 3 F__law_dot [] (mCons (mVar 1) (mCons (mOp aIx (mVar 6) (mC (.int 0))) (mCons (mVar 11) (mNil))))) (mNil)))))) (gNm 18))
    (mSeq (mDrop (mExt (mVar 17) (mLst (mCons (mCall 3 F_row_plus [] (mCons (mVar 2) (mCons (mOp aIx (mVar 12) (mC (.int 0))) (mCons (mVar 11) (mNil))))) (mCons (mCall 3 F_row_minus [] (mCons (mVar 2) (mCons (mOp aIx (mVar 12) (mC (.int 0))) (mCons (mVar 11) (mNil))))) (mCons (mCall 3 F_row_times [] (mCons (mVar 2) (mCons (mVar 9) (mCons (mOp aIx (mVar 12) (mC (.int 0))) (mNil))))) (mNil)))))))
    (mSeq (mDrop (mApp (mVar 18) (mCB aTuple (mCons (mLc [20] (iR1 (mCons (mVar 3) (mNil))) (gNm 20) mYes e10__law_tables_right) (mNil)))))
    (mSeq (mDrop (mApp (mVar 18) (mCB aTuple (mCons (mLc [20] (iR1 (mCons (mVar 3) (mNil))) (gNm 20) mYes e9__law_tables_right) (mNil)))))
    (mSeq (mDrop (mApp (mVar 18) (mCB aTuple (mCons (mLc [22] (iSq (mOp aIx (mVar 6) (mC (.int 0)))) (gNm 22) mYes e8__law_tables_right) (mNil)))))
    (mSeq (mDrop (mExt (mVar 17) (mLst (mCons (mCall 3 F_table_row [] (mCons (mVar 2) (mCons (mVar 12) (mCons (mVar 11) (mNil))))) (mCons (mCall 4 F_row_table [.non] (mCons (mVar 2) (mCons (mVar 10) (mCons (mVar 12) (mNil))))) (mCons (mCall 4 F_row_table [] (mCons (mVar 2) (mCons (mTup (mNil)) (mCons (mTup (mNil)) (mCons (mVar 3) (mNil)))))) (mNil)))))))
    (mSeq (mDrop (mExt (mVar 18) (mLst (mCons (mCB aTuple (mCons (mLc [21] (iSq (mVar 6)) (gNm 21) mYes e7__law_tables_right) (mNil))) (mCons (mVar 16) (mCons (mCall 1 F__law_zero [] (mCons (mVar 3) (mNil))) (mNil)))))))
    (mSeq (mDrop (mExt (mVar 17) (mLst (mCons (mCall 4 F_row_table [] (mCons (mVar 2) (mCons (mVar 10) (mCons (mVar 12) (mCons (mVar 3) (mNil)))))) (mCons (mCall 3 F_table_table [] (mCons (mVar 2) (mCons (mVar 12) (mCons (mVar 8) (mNil))))) (mCons (mCall 1 F_turned [] (mCons (mVar 8) (mNil))) (mCons (mCall 1 F_turned [] (mCons (mVar 12) (mNil))) (mNil))))))))
    (mSeq (mDrop (mExt (mVar 18) (mLst (mCons (mVar 16) (mCons (mCB aTuple (mCons (mLc [21] (iSq (mVar 6)) (gNm 21) mYes e6__law_tables_right) (mNil))) (mCons (mCB aTuple (mCons (mVar 15) (mNil))) (mNil)))))))
    (mSeq (mDrop (mApp (mVar 18) (mCB aTuple (mCons (mLc [20] (iR1 (mCons (mVar 3) (mNil))) (gNm 20) mYes e4__law_tables_right) (mNil)))))
    (mSeq (mDrop (mApp (mVar 17) (mCall 3 F_table_plus [] (mCons (mVar 2) (mCons (mVar 12) (mCons (mVar 7) (mNil)))))))
    (mSeq (mAsg (mLstC (mNil)) (gNm 19))
    (mSeq (mFor (iR1 (mCons (mVar 4) (mNil))) (gNm 20) b2__law_tables_right)
    (mSeq (mDrop (mApp (mVar 18) (mCB aTuple (mCons (mVar 19) (mNil)))))
    (mSeq (mFrz 17) (mRet (mAndV (mCB (onL fAll) (mCons (mLc [24] (iSq (mVar 17)) (gNm 24) mYes e0__law_tables_right) (mNil))) (mAndV (mOp aEq (mVar 17) (mVar 18)) (mOp aEq (mCB aRepr (mCons (mVar 12) (mNil))) (mVar 13))))))))))))))))))))))))))))))))))
noncomputable def F__law_tables_right : Fn := dropF (noX (fnOf m__law_tables_right 25))
abbrev s_law : Stmt := top 50
abbrev N_law : List Str := ["script", "bag", "p", "field"]
noncomputable def m_law : MS :=
    mSeq (mAsg (mCall 1 F__law_bag [] (mCons (mVar 0) (mNil))) (gNm 1))
    (mSeq (mAsg (mCall 1 F__law_prime [] (mCons (mVar 1) (mNil))) (gNm 2))
    (mSeq (mAsg (mIf (mTst (mOp aEq (mVar 2) (mC (.int 0)))) (mMake "Field" 2 F_Field___init__ [.non] (mNil)) (mMake "Field" 2 F_Field___init__ [] (mCons (mVar 2) (mNil)))) (gNm 3))
    (mRet (mAndV (mCall 3 F__law_tables_right [] (mCons (mVar 1) (mCons (mVar 2) (mCons (mVar 3) (mNil))))) (mCall 3 F__law_tables_right [] (mCons (mVar 1) (mCons (mVar 2) (mCons (mVar 3) (mNil)))))))))
noncomputable def F_law : Fn := dropF (noX (fnOf m_law 4))
end W

set_option maxRecDepth 100000
set_option maxHeartbeats 4000000
/-! Numbers of every field as pairs: the plain arithmetic. -/
namespace Mi
open PySem PySem.Spec L2
def gcdI (a b : Int) : Int := ((Nat.gcd a.natAbs b.natAbs : Nat) : Int)
theorem gcd_pos (a : Int) {b : Int} (hb : b ≠ 0) : 0 < gcdI a b := by
  unfold gcdI
  have : 0 < Nat.gcd a.natAbs b.natAbs := Nat.gcd_pos_of_pos_right _ (by omega)
  omega
theorem gcd_le (a : Int) {b : Int} (hb : b ≠ 0) : (gcdI a b).natAbs ≤ b.natAbs := by
  unfold gcdI
  have := Nat.gcd_le_right (n := b.natAbs) a.natAbs (by omega)
  omega
theorem gcd_sm (a : Int) {b : Int} (hb : b ≠ 0) (sb : Sm b) : Sm (gcdI a b) := Nat.lt_of_le_of_lt (gcd_le a hb) sb
theorem fdiv_pos {a b : Int} (hb : 0 < b) : a.fdiv b = a / b := Int.fdiv_eq_ediv_of_nonneg a (by omega)
theorem fmod_pos {a b : Int} (hb : 0 < b) : a.fmod b = a % b := Int.fmod_eq_emod_of_nonneg a (by omega)
theorem gcdI_zero (a : Int) (ha : 0 ≤ a) : gcdI a 0 = a := by
  unfold gcdI
  rw [show (0 : Int).natAbs = 0 from rfl, Nat.gcd_zero_right]
  omega
theorem gcdI_abs (a b : Int) : gcdI (a.natAbs : Int) b = gcdI a b := by
  unfold gcdI
  rw [Int.natAbs_natCast]
theorem gcdI_step (a b : Int) (ha : 0 ≤ a) (hb : 0 < b) : gcdI b (a % b) = gcdI a b := by
  unfold gcdI
  have e : (a % b).natAbs = a.natAbs % b.natAbs := by
    obtain ⟨m, rfl⟩ := Int.eq_ofNat_of_zero_le ha
    obtain ⟨n, rfl⟩ := Int.eq_ofNat_of_zero_le (show 0 ≤ b by omega)
    rfl
  rw [e, Nat.gcd_comm a.natAbs, Nat.gcd_rec b.natAbs a.natAbs, Nat.gcd_comm]
theorem mul_b {a b : Int} {m n : Nat} (ha : a.natAbs < 2 ^ m) (hb : b.natAbs < 2 ^ n) : (a * b).natAbs < 2 ^ (m + n) := by
  rw [Int.natAbs_mul, Nat.pow_add]
  exact Nat.mul_lt_mul'' ha hb
theorem add_b {a b : Int} {m : Nat} (ha : a.natAbs < 2 ^ m) (hb : b.natAbs < 2 ^ m) : (a + b).natAbs < 2 ^ (m + 1) := by
  rw [Nat.pow_succ]
  omega
theorem sub_b {a b : Int} {m : Nat} (ha : a.natAbs < 2 ^ m) (hb : b.natAbs < 2 ^ m) : (a - b).natAbs < 2 ^ (m + 1) := by
  rw [Nat.pow_succ]
  omega
theorem neg_b {a : Int} {m : Nat} (ha : a.natAbs < 2 ^ m) : (0 - a).natAbs < 2 ^ m := by omega
theorem sm_b {a : Int} {m : Nat} (ha : a.natAbs < 2 ^ m) (hm : m ≤ 4000) : Sm a := sm_of ha hm
def rt (a b : Int) : Int × Int := (a / gcdI a b, b / gcdI a b)
theorem gcdI_dl (a b : Int) : gcdI a b ∣ a := by
  unfold gcdI
  exact Int.ofNat_dvd_left.mpr (Nat.gcd_dvd_left _ _)
theorem gcdI_dr (a b : Int) : gcdI a b ∣ b := by
  unfold gcdI
  exact Int.ofNat_dvd_left.mpr (Nat.gcd_dvd_right _ _)
theorem rt_pos (a : Int) {b : Int} (hb : 0 < b) : 0 < (rt a b).2 := by
  have hg := gcd_pos a (b := b) (by omega)
  obtain ⟨k, hk⟩ := gcdI_dr a b
  have : (rt a b).2 = k := by
    show b / gcdI a b = k
    have e : b / gcdI a b = (gcdI a b * k) / gcdI a b := congrArg (· / gcdI a b) hk
    rw [e]
    exact Int.mul_ediv_cancel_left k (by omega)
  rw [this]
  rcases Int.lt_trichotomy k 0 with z | z | z
  · have := Int.mul_neg_of_pos_of_neg hg z
    omega
  · subst z
    omega
  · exact z
theorem rt_gcd (a : Int) {b : Int} (hb : 0 < b) : gcdI (rt a b).1 (rt a b).2 = 1 := by
  have hg := gcd_pos a (b := b) (by omega)
  show gcdI (a / gcdI a b) (b / gcdI a b) = 1
  have hn : 0 < Nat.gcd a.natAbs b.natAbs := Nat.gcd_pos_of_pos_right _ (by omega)
  have e1 : (a / gcdI a b).natAbs = a.natAbs / Nat.gcd a.natAbs b.natAbs := by
    rw [Int.natAbs_ediv_of_dvd (gcdI_dl a b)] <;> rfl
  have e2 : (b / gcdI a b).natAbs = b.natAbs / Nat.gcd a.natAbs b.natAbs := by
    rw [Int.natAbs_ediv_of_dvd (gcdI_dr a b)] <;> rfl
  have e3 : gcdI (a / gcdI a b) (b / gcdI a b) = ((Nat.gcd (a / gcdI a b).natAbs (b / gcdI a b).natAbs : Nat) : Int) := rfl
  rw [e3, e1, e2, Nat.gcd_div_gcd_div_gcd_of_pos_right (by omega)]
  rfl
theorem rt_self {a b : Int} (h : gcdI a b = 1) : rt a b = (a, b) := by
  unfold rt
  rw [h, Int.ediv_one, Int.ediv_one]
theorem rt_1 (a : Int) {b : Int} (hb : 0 < b) : (rt a b).1.natAbs ≤ a.natAbs := by
  show (a / gcdI a b).natAbs ≤ _
  rw [Int.natAbs_ediv_of_dvd (gcdI_dl a b)]
  exact Nat.div_le_self _ _
theorem rt_2 (a : Int) {b : Int} (hb : 0 < b) : (rt a b).2.natAbs ≤ b.natAbs := by
  show (b / gcdI a b).natAbs ≤ _
  rw [Int.natAbs_ediv_of_dvd (gcdI_dr a b)]
  exact Nat.div_le_self _ _
theorem gcd_neg (a b : Int) : gcdI (0 - a) b = gcdI a b := by
  unfold gcdI
  rw [show (0 - a).natAbs = a.natAbs by omega]
def primes : List Int := [2, 3, 5, 7, 11, 13, 17, 19, 23, 29, 31, 37, 41, 43, 47, 53, 59, 61, 67, 71, 73, 79, 83, 89, 97]
theorem pr_rng : ∀ p ∈ primes, 2 ≤ p ∧ p ≤ 97 := by decide +kernel
theorem pr_cop0 : ∀ p ∈ primes, ∀ r < 97, 0 < r → r < p.natAbs → Nat.gcd p.natAbs r = 1 := by decide +kernel
theorem pr_no0 : ∀ p ∈ primes, ∀ r < 97, 2 ≤ r → r < p.natAbs → p.natAbs % r ≠ 0 := by decide +kernel
theorem pr_cop {p r : Int} (hp : p ∈ primes) (h0 : 0 < r) (h1 : r < p) : gcdI p r = 1 := by
  have := pr_rng p hp
  have := pr_cop0 p hp r.natAbs (by omega) (by omega) (by omega)
  unfold gcdI
  omega
theorem pr_no {p r : Int} (hp : p ∈ primes) (h0 : 2 ≤ r) (h1 : r < p) : p % r ≠ 0 := by
  have := pr_rng p hp
  have q := pr_no0 p hp r.natAbs (by omega) (by omega) (by omega)
  intro z
  apply q
  obtain ⟨m, rfl⟩ := Int.eq_ofNat_of_zero_le (show 0 ≤ p by omega)
  obtain ⟨n, rfl⟩ := Int.eq_ofNat_of_zero_le (show 0 ≤ r by omega)
  have : ((m % n : Nat) : Int) = 0 := z
  show m % n = 0
  omega
def IsInv (p b i : Int) : Prop := 0 ≤ i ∧ i < p ∧ p ∣ b * i - 1
theorem IsInv.uniq {p b i j : Int} (x : IsInv p b i) (y : IsInv p b j) : i = j := by
  have e : i - j = j * (b * i - 1) - i * (b * j - 1) := by
    rw [Int.mul_sub, Int.mul_sub, Int.mul_left_comm j b i, Int.mul_left_comm i b j, Int.mul_comm j i]
    omega
  have d : p ∣ i - j := by
    rw [e]
    exact Int.dvd_sub (Int.dvd_mul_of_dvd_right x.2.2) (Int.dvd_mul_of_dvd_right y.2.2)
  have h1 := x.1
  have h2 := x.2.1
  have h3 := y.1
  have h4 := y.2.1
  have := Int.eq_zero_of_dvd_of_natAbs_lt_natAbs d (by omega)
  omega
theorem dvd1 {p x : Int} (hp : 2 ≤ p) : p ∣ x - 1 ↔ x % p = 1 := by
  constructor
  · rintro ⟨k, hk⟩
    have : x = 1 + p * k := by omega
    rw [this, Int.add_mul_emod_self_left]
    exact Int.emod_eq_of_lt (by decide) (by omega)
  · intro e
    have := Int.mul_ediv_add_emod x p
    exact ⟨x / p, by omega⟩
theorem IsInv.of_mod {p b i : Int} (x : IsInv p (b % p) i) : IsInv p b i := by
  refine ⟨x.1, x.2.1, ?_⟩
  have e : b * i - 1 = (b % p * i - 1) + p * (b / p * i) := by
    have := Int.mul_ediv_add_emod b p
    have e2 : b * i = (p * (b / p) + b % p) * i := by rw [this]
    rw [e2, Int.add_mul, Int.mul_assoc]
    omega
  rw [e]
  exact Int.dvd_add x.2.2 (Int.dvd_mul_right _ _)
theorem ir_step {r p l g x y t : Int} (d1 : p ∣ x * r - l) (d2 : p ∣ y * r - g) : p ∣ (x - t * y) * r - (l - t * g) := by
  have e : (x - t * y) * r - (l - t * g) = (x * r - l) - t * (y * r - g) := by
    rw [Int.sub_mul, Int.mul_sub, Int.mul_assoc]
    omega
  rw [e]
  exact Int.dvd_sub d1 (Int.dvd_mul_of_dvd_right d2)
theorem pr_ne {p : Int} (hp : p ∈ primes) : ¬ p = 0 := by
  have := pr_rng p hp
  omega
theorem pr_pos {p : Int} (hp : p ∈ primes) : decide (0 < p) = true := by
  have := pr_rng p hp
  rw [decide_eq_true_eq]
  omega
theorem pr_f {p : Int} (hp : p ∈ primes) (x : Int) : x.fmod p = x % p := fmod_pos (by have := pr_rng p hp; omega)
/-- a ratio in lowest terms, of at most n bits -/
def NB (n : Nat) (x : Int × Int) : Prop := 0 < x.2 ∧ gcdI x.1 x.2 = 1 ∧ x.1.natAbs < 2 ^ n ∧ x.2.natAbs < 2 ^ n
/-- a number of the field of p (0: the ratios) -/
def Num (p : Int) (n : Nat) (x : Int × Int) : Prop := (p = 0 ∧ NB n x) ∨ (p ∈ primes ∧ 0 ≤ x.1 ∧ x.1 < p ∧ x.2 = 1)
def Fld (p : Int) : Prop := p = 0 ∨ p ∈ primes
theorem lt_pow_mono {a n m : Nat} (h : a < 2 ^ n) (hm : n ≤ m) : a < 2 ^ m := Nat.lt_of_lt_of_le h (Nat.pow_le_pow_right (by decide) hm)
theorem NB.mono {n m : Nat} {x : Int × Int} (h : NB n x) (hm : n ≤ m) : NB m x := ⟨h.1, h.2.1, lt_pow_mono h.2.2.1 hm, lt_pow_mono h.2.2.2 hm⟩
theorem Num.mono {p : Int} {n m : Nat} {x : Int × Int} (h : Num p n x) (hm : n ≤ m) : Num p m x := h.imp (fun q => ⟨q.1, q.2.mono hm⟩) id
def mkq (t b : Int) : Int × Int := if b < 0 then rt (0 - t) (0 - b) else rt t b
/-- the inverse by a prime -/
def qi (p b : Int) : Int := match (List.range p.natAbs).find? (fun (k : Nat) => (b * (k : Int)) % p == 1) with
  | some k => (k : Int)
  | none => 0
theorem qi_of {p b i : Int} (hp : 2 ≤ p) (h : IsInv p b i) : qi p b = i := by
  unfold qi
  cases e : (List.range p.natAbs).find? (fun (k : Nat) => (b * (k : Int)) % p == 1) with
  | none =>
    rw [List.find?_eq_none] at e
    have h0 := h.1
    have h1 := h.2.1
    have q := e i.toNat (List.mem_range.mpr (by omega))
    rw [Int.toNat_of_nonneg h0] at q
    exact absurd (by simpa using (dvd1 hp).mp h.2.2) q
  | some k =>
    have m := List.mem_of_find?_eq_some e
    have q := List.find?_some e
    have q' : b * (k : Int) % p = 1 := by simpa using q
    have hk := List.mem_range.mp m
    show (k : Int) = i
    exact IsInv.uniq ⟨by omega, by omega, (dvd1 hp).mpr q'⟩ h
def qplus (p : Int) (x y : Int × Int) : Int × Int := if p = 0 then rt (x.1 * y.2 + y.1 * x.2) (x.2 * y.2) else ((x.1 + y.1) % p, 1)
def qminus (p : Int) (x y : Int × Int) : Int × Int := if p = 0 then rt (x.1 * y.2 - y.1 * x.2) (x.2 * y.2) else ((x.1 - y.1) % p, 1)
def qtimes (p : Int) (x y : Int × Int) : Int × Int := if p = 0 then rt (x.1 * y.1) (x.2 * y.2) else (x.1 * y.1 % p, 1)
def qneg (p : Int) (x : Int × Int) : Int × Int := if p = 0 then (0 - x.1, x.2) else ((0 - x.1) % p, 1)
def qover (p : Int) (x y : Int × Int) : Int × Int := if p = 0 then mkq (x.1 * y.2) (x.2 * y.1) else (x.1 * qi p y.1 % p, 1)
/-- the number t / b -/
def qnum (p t b : Int) : Int × Int := if p = 0 then mkq t b else (t * qi p b % p, 1)
theorem NB.rt {n : Nat} {a b : Int} (hb : 0 < b) (h1 : a.natAbs < 2 ^ n) (h2 : b.natAbs < 2 ^ n) : NB n (rt a b) := by
  have := rt_1 a hb
  have := rt_2 a hb
  exact ⟨rt_pos a hb, rt_gcd a hb, by omega, by omega⟩
theorem NB.mk {n : Nat} {a b : Int} (hb : b ≠ 0) (h1 : a.natAbs < 2 ^ n) (h2 : b.natAbs < 2 ^ n) : NB n (mkq a b) := by
  unfold mkq
  split
  · exact NB.rt (by omega) (by omega) (by omega)
  · exact NB.rt (by omega) h1 h2
theorem prN {p : Int} (hp : p ∈ primes) (n : Nat) (x : Int) : Num p n (x % p, 1) := by
  have := pr_rng p hp
  exact .inr ⟨hp, Int.emod_nonneg _ (by omega), Int.emod_lt_of_pos _ (by omega), rfl⟩
section
variable {p : Int} {n m : Nat} {x y : Int × Int}
theorem Num.fld (h : Num p n x) : Fld p := h.imp (fun q => q.1) fun q => q.1
theorem Num.plus (h : Num p n x) (k : Num p m y) : Num p (n + m + 1) (qplus p x y) := by
  unfold qplus
  rcases h with ⟨rfl, h⟩ | ⟨hp, h⟩
  · rcases k with ⟨_, k⟩ | ⟨w, _⟩
    · rw [if_pos rfl]
      refine .inl ⟨rfl, NB.rt (Int.mul_pos h.1 k.1) (add_b (mul_b h.2.2.1 k.2.2.2) ?_) (lt_pow_mono (mul_b h.2.2.2 k.2.2.2) (by omega))⟩
      rw [Nat.add_comm n m]
      exact mul_b k.2.2.1 h.2.2.2
    · exact absurd rfl (pr_ne w)
  · rw [if_neg (pr_ne hp)]
    exact prN hp _ _
theorem Num.minus (h : Num p n x) (k : Num p m y) : Num p (n + m + 1) (qminus p x y) := by
  unfold qminus
  rcases h with ⟨rfl, h⟩ | ⟨hp, h⟩
  · rcases k with ⟨_, k⟩ | ⟨w, _⟩
    · rw [if_pos rfl]
      refine .inl ⟨rfl, NB.rt (Int.mul_pos h.1 k.1) (sub_b (mul_b h.2.2.1 k.2.2.2) ?_) (lt_pow_mono (mul_b h.2.2.2 k.2.2.2) (by omega))⟩
      rw [Nat.add_comm n m]
      exact mul_b k.2.2.1 h.2.2.2
    · exact absurd rfl (pr_ne w)
  · rw [if_neg (pr_ne hp)]
    exact prN hp _ _
theorem Num.times (h : Num p n x) (k : Num p m y) : Num p (n + m) (qtimes p x y) := by
  unfold qtimes
  rcases h with ⟨rfl, h⟩ | ⟨hp, h⟩
  · rcases k with ⟨_, k⟩ | ⟨w, _⟩
    · rw [if_pos rfl]
      exact .inl ⟨rfl, NB.rt (Int.mul_pos h.1 k.1) (mul_b h.2.2.1 k.2.2.1) (mul_b h.2.2.2 k.2.2.2)⟩
    · exact absurd rfl (pr_ne w)
  · rw [if_neg (pr_ne hp)]
    exact prN hp _ _
theorem Num.neg (h : Num p n x) : Num p n (qneg p x) := by
  unfold qneg
  rcases h with ⟨rfl, h⟩ | ⟨hp, h⟩
  · rw [if_pos rfl]
    exact .inl ⟨rfl, h.1, by rw [gcd_neg]; exact h.2.1, by have := h.2.2.1; show (0 - x.1).natAbs < _; omega, h.2.2.2⟩
  · rw [if_neg (pr_ne hp)]
    exact prN hp _ _
theorem Num.over (h : Num p n x) (k : Num p m y) (hy : y.1 ≠ 0) : Num p (n + m) (qover p x y) := by
  unfold qover
  rcases h with ⟨rfl, h⟩ | ⟨hp, h⟩
  · rcases k with ⟨_, k⟩ | ⟨w, _⟩
    · rw [if_pos rfl]
      exact .inl ⟨rfl, NB.mk (Int.mul_ne_zero (by have := h.1; omega) hy) (mul_b h.2.2.1 k.2.2.2) (mul_b h.2.2.2 k.2.2.1)⟩
    · exact absurd rfl (pr_ne w)
  · rw [if_neg (pr_ne hp)]
    exact prN hp _ _
theorem Num.num {t b : Int} (hp : Fld p) (ht : t.natAbs < 2 ^ n) (hb : b.natAbs < 2 ^ n) (h0 : p = 0 → b ≠ 0) : Num p n (qnum p t b) := by
  unfold qnum
  rcases hp with rfl | hp
  · rw [if_pos rfl]
    exact .inl ⟨rfl, NB.mk (h0 rfl) ht hb⟩
  · rw [if_neg (pr_ne hp)]
    exact prN hp _ _
theorem NB.zero : NB 1 (0, 1) := ⟨by decide, by decide, by decide, by decide⟩
theorem NB.one : NB 1 (1, 1) := ⟨by decide, by decide, by decide, by decide⟩
theorem NB.m1 : NB 1 (-1, 1) := ⟨by decide, by decide, by decide, by decide⟩
theorem Num.zero (hp : Fld p) : Num p 1 (0, 1) := by
  rcases hp with rfl | hp
  · exact .inl ⟨rfl, NB.zero⟩
  · exact .inr ⟨hp, by decide, by have := pr_rng p hp; show (0 : Int) < p; omega, rfl⟩
theorem Num.one (hp : Fld p) : Num p 1 (1, 1) := by
  rcases hp with rfl | hp
  · exact .inl ⟨rfl, NB.one⟩
  · exact .inr ⟨hp, by decide, by have := pr_rng p hp; show (1 : Int) < p; omega, rfl⟩
/-- 0 is told by what stands above -/
theorem Num.eq0 (h : Num p n x) (e : x.1 = 0) : x = (0, 1) := by
  obtain ⟨a, b⟩ := x
  have e' : a = 0 := e
  subst e'
  rcases h with ⟨_, h⟩ | ⟨_, _, _, h⟩
  · have g : gcdI 0 b = 1 := h.2.1
    have h0 : 0 < b := h.1
    have : gcdI 0 b = b := by
      unfold gcdI
      rw [show (0 : Int).natAbs = 0 from rfl, Nat.gcd_zero_left]
      omega
    rw [this] at g
    rw [g]
  · have h' : b = 1 := h
    rw [h']
theorem qplus_zero (h : Num p n x) : qplus p x (0, 1) = x := by
  obtain ⟨a, b⟩ := x
  unfold qplus
  rcases h with ⟨rfl, h⟩ | ⟨hp, h0, h1, h⟩
  · rw [if_pos rfl]
    show rt (a * 1 + 0 * b) (b * 1) = (a, b)
    rw [Int.mul_one, Int.zero_mul, Int.add_zero, Int.mul_one]
    exact rt_self h.2.1
  · rw [if_neg (pr_ne hp)]
    have h' : b = 1 := h
    rw [h']
    show ((a + 0) % p, (1 : Int)) = (a, 1)
    rw [Int.add_zero, Int.emod_eq_of_lt h0 h1]
theorem qtimes_zero (h : Num p n x) : qtimes p x (0, 1) = (0, 1) := by
  obtain ⟨a, b⟩ := x
  unfold qtimes
  rcases h with ⟨rfl, h⟩ | ⟨hp, h0, h1, h⟩
  · rw [if_pos rfl]
    show rt (a * 0) (b * 1) = (0, 1)
    rw [Int.mul_zero, Int.mul_one]
    have hb : 0 < b := h.1
    have g : gcdI 0 b = b := by
      unfold gcdI
      rw [show (0 : Int).natAbs = 0 from rfl, Nat.gcd_zero_left]
      omega
    unfold rt
    rw [g, Int.zero_ediv, Int.ediv_self (by omega)]
  · rw [if_neg (pr_ne hp)]
    show (a * 0 % p, (1 : Int)) = (0, 1)
    rw [Int.mul_zero, Int.zero_emod]
end
end Mi

set_option maxRecDepth 100000
set_option maxHeartbeats 4000000
namespace W
open PySem PySem.Spec L2 Mi
theorem ixN3_1 : ixN 3 1 = some 1 := rfl
theorem ixN3_2 : ixN 3 2 = some 2 := rfl
theorem pow18 {h : AHeap} : aPow (.int 10) (.int 18) h = some (.int 1000000000000000000) := rfl
theorem pow30 {h : AHeap} : aPow (.int 10) (.int 30) h = some (.int 1000000000000000000000000000000) := rfl
theorem pow6 {h : AHeap} : aPow (.int 10) (.int 6) h = some (.int 1000000) := rfl
def fld (x : AV) : AV := .obj "Field" ["prime"] [x]
theorem at_f0 (x : AV) {r : Env2} {h : AHeap} : mAt ["Field"] "prime" (mVar 0) (some (fld x) :: r) h = .ok x h := by
  unfold mAt mVar
  rw [List.getElem?_cons_zero]
  simp [fld]
local macro_rules | `(tactic| walk_at "ev") => `(tactic| simp only [noX, fnOf, mSeq, mNext, mAsg, gNm, mIfS, mTst, mTru, mOp, mUn, mVar, mC, mCons, mNil, mTup, mLst, mRet, mCall, mMeth, mCB, mIf, mAnd, mOr, mNot, mAndV, mOrV, mNotV, mNotT, mPar, mDrop, isLc, beq_self_eq_true, mLstC, ixN3_1, ixN3_2, pow18, pow30, pow6, List.set_set, gTp, gsCons, gsNil, mSetAt, mSetIx, mApp, mExt, mFrz, mChain, at_f0, List.map_cons, List.map_nil, List.length_cons, List.length_nil, List.cons_append, List.nil_append, List.append_nil, List.replicate_succ, List.replicate_zero, Nat.reduceAdd, Nat.reduceSub, List.getElem?_cons_zero, List.getElem?_cons_succ, List.set_cons_zero, List.set_cons_succ, aAt_0, aAt_1, aAt_2, aEq_int, aNe_int, aEq_t2, aNe_t2, aNe_ni, aNe_in, aNe_nn, aIx_t, aIx_l, aAdd_int, aSub_int, aMul_int, aMod_int, aFdiv_int, aCmp_int, aIs_n, aIsNot_n, aIsNot_b, tr_bl, tr_lst, isi_ii, isi_ib, isi_tt, aInt_int, aAbs_int, aLen_tup, aLen_lst, isN, sizeLine_eq, Nat.reduceLeDiff, Nat.reduceLT, ↓reduceIte, decide_true, decide_false, eq_self, if_true, Bool.false_eq_true, Bool.not_true, Bool.not_false, Bool.true_and, Bool.and_true, Bool.false_and, Bool.and_false, *])
local macro_rules | `(tactic| walk_at "fo") => `(tactic| simp only [noX, fnOf, mSeq, mNext, mAsg, gNm, mIfS, mTst, mTru, mOp, mUn, mVar, mC, mCons, mNil, mTup, mLst, mRet, mCall, mMeth, mCB, mIf, mAnd, mOr, mNot, mAndV, mOrV, mNotV, mNotT, mPar, mDrop, isLc, beq_self_eq_true, mLstC, mFor, iSq, frzL, forL, ixN3_1, ixN3_2, pow18, pow30, pow6, List.set_set, gTp, gsCons, gsNil, mSetAt, mSetIx, mApp, mExt, mFrz, mChain, at_f0, List.map_cons, List.map_nil, List.length_cons, List.length_nil, List.cons_append, List.nil_append, List.append_nil, List.replicate_succ, List.replicate_zero, Nat.reduceAdd, Nat.reduceSub, List.getElem?_cons_zero, List.getElem?_cons_succ, List.set_cons_zero, List.set_cons_succ, aAt_0, aAt_1, aAt_2, aEq_int, aNe_int, aEq_t2, aNe_t2, aNe_ni, aNe_in, aNe_nn, aIx_t, aIx_l, aAdd_int, aSub_int, aMul_int, aMod_int, aFdiv_int, aCmp_int, aIs_n, aIsNot_n, aIsNot_b, tr_bl, tr_lst, isi_ii, isi_ib, isi_tt, aInt_int, aAbs_int, aLen_tup, aLen_lst, isN, sizeLine_eq, Nat.reduceLeDiff, Nat.reduceLT, ↓reduceIte, decide_true, decide_false, eq_self, if_true, Bool.false_eq_true, Bool.not_true, Bool.not_false, Bool.true_and, Bool.and_true, Bool.false_and, Bool.and_false, *])
theorem aGcd_ev {a b : Int} {h : AHeap} : aGcd [.int a, .int b] h = some (.int (gcdI a b)) := rfl
theorem law_gcd_ev (a b : Int) (h : AHeap) (ha : 0 ≤ a) (hb : 0 ≤ b) : F__law_gcd [.int a, .int b] h = .ok (.int (gcdI a b)) h := by
  obtain ⟨ρ', h', e, ⟨x, y, hx, hy, hρ, hh, hg⟩, ec⟩ := mWhile_run (c := c0__law_gcd) (b := b1__law_gcd)
    (fun ρ k => ∃ x y, 0 ≤ x ∧ 0 ≤ y ∧ ρ = [some (.int x), some (.int y)] ∧ k = h ∧ gcdI x y = gcdI a b)
    (fun ρ _ => match ρ with
      | [_, some (.int y)] => y.natAbs
      | _ => 0)
    (by
      rintro ρ k ⟨x, y, hx, hy, rfl, rfl, hg⟩
      unfold c0__law_gcd b1__law_gcd
      by_cases y0 : y = 0
      · left
        subst y0
        walk_at "ev"
      · right
        have yb : (y == 0) = false := by simpa using y0
        have f1 : x.fmod y = x % y := fmod_pos (by omega)
        have := Int.emod_nonneg x y0
        have := Int.emod_lt_of_pos x (show 0 < y by omega)
        refine ⟨by walk_at "ev", [some (.int y), some (.int (x % y))], k, by walk_at "ev", ⟨y, x % y, by omega, by omega, rfl, rfl, ?_⟩, ?_⟩
        · rw [gcdI_step x y hx (by omega)]
          exact hg
        · show (x % y).natAbs < y.natAbs
          omega)
    (ρ := [some (.int a), some (.int b)]) (h := h) ⟨a, b, ha, hb, rfl, rfl, rfl⟩
  subst hh hρ
  have y0 : y = 0 := by
    have e2 := ec
    unfold c0__law_gcd at e2
    simp only [mTst, mOp, mVar, mC, List.getElem?_cons_zero, List.getElem?_cons_succ, aNe_int] at e2
    simpa using e2
  subst y0
  rw [gcdI_zero x hx] at hg
  unfold F__law_gcd m__law_gcd
  walk_at "ev"
def rat (a b : Int) : AV := .tup [.int (a / gcdI a b), .int (b / gcdI a b)]
theorem lowest_ev (a b : Int) (h : AHeap) (hb : 0 < b) (sb : Sm b) : F_lowest [.int a, .int b] h = .ok (rat a b) h := by
  have hg := gcd_pos a (b := b) (by omega)
  have d1 : ∀ x, divOk x (gcdI a b) = true := fun x => div_sm (by omega) (gcd_sm a (by omega) sb)
  unfold F_lowest m_lowest rat
  by_cases h1 : b = 1
  · subst h1
    have g1 : gcdI a 1 = 1 := by
      unfold gcdI
      rw [show (1 : Int).natAbs = 1 from rfl, Nat.gcd_one_right] <;> rfl
    rw [g1]
    walk_at "ev"
    simp
  · have h2 : (b == 1) = false := by simpa using h1
    have ga := @aGcd_ev a b
    have f1 : a.fdiv (gcdI a b) = a / gcdI a b := fdiv_pos hg
    have f2 : b.fdiv (gcdI a b) = b / gcdI a b := fdiv_pos hg
    walk_at "ev"
theorem rat_pA (a b : Int) : rat a b = pA (rt a b) := rfl
def mk (t b : Int) : AV := if b < 0 then rat (0 - t) (0 - b) else rat t b
theorem law_make0 (t b : Int) (h : AHeap) (hb : b ≠ 0) (sb : Sm b) : F__law_make [.int 0, .int t, .int b] h = .ok (mk t b) h := by
  unfold F__law_make m__law_make mk
  by_cases c : b < 0
  · have sb' : Sm (0 - b) := by
      unfold Sm at sb ⊢
      omega
    have hg := gcd_pos (0 - t) (b := 0 - b) (by omega)
    have d1 : ∀ x, divOk x (gcdI (0 - t) (0 - b)) = true := fun x => div_sm (by omega) (gcd_sm _ (by omega) sb')
    have q := fun h => law_gcd_ev ((0 - t).natAbs : Int) (0 - b) h (by omega) (by omega)
    rw [gcdI_abs] at q
    have f1 : (0 - t).fdiv (gcdI (0 - t) (0 - b)) = (0 - t) / (gcdI (0 - t) (0 - b)) := fdiv_pos hg
    have f2 : (0 - b).fdiv (gcdI (0 - t) (0 - b)) = (0 - b) / (gcdI (0 - t) (0 - b)) := fdiv_pos hg
    have c1 : decide (b < 0) = true := by simpa using c
    have c2 : decide ((0 : Int) < 0) = false := rfl
    walk_at "ev"
    rfl
  · have hg := gcd_pos t (b := b) (by omega)
    have d1 : ∀ x, divOk x (gcdI t b) = true := fun x => div_sm (by omega) (gcd_sm _ (by omega) sb)
    have q := fun h => law_gcd_ev (t.natAbs : Int) b h (by omega) (by omega)
    rw [gcdI_abs] at q
    have f1 : t.fdiv (gcdI t b) = t / (gcdI t b) := fdiv_pos hg
    have f2 : b.fdiv (gcdI t b) = b / (gcdI t b) := fdiv_pos hg
    have c1 : decide (b < 0) = false := by simpa using c
    have c2 : decide ((0 : Int) < 0) = false := rfl
    walk_at "ev"
    rfl
theorem mk_pos {t b : Int} (hb : 0 < b) : mk t b = rat t b := by
  unfold mk
  rw [if_neg (by omega)]
section
variable {n m : Nat} {a b c d : Int} (x : NB n (a, b)) (y : NB m (c, d)) (hn : n + m ≤ 3900) (h : AHeap)
include x y hn
theorem m_ad : mulOk a d = true := mul_sm (sm_b x.2.2.1 (by omega)) (sm_b y.2.2.2 (by omega))
theorem m_ca : mulOk c b = true := mul_sm (sm_b y.2.2.1 (by omega)) (sm_b x.2.2.2 (by omega))
theorem m_ac : mulOk a c = true := mul_sm (sm_b x.2.2.1 (by omega)) (sm_b y.2.2.1 (by omega))
theorem m_bd : mulOk b d = true := mul_sm (sm_b x.2.2.2 (by omega)) (sm_b y.2.2.2 (by omega))
theorem m_bc : mulOk b c = true := mul_sm (sm_b x.2.2.2 (by omega)) (sm_b y.2.2.1 (by omega))
theorem s_bd : Sm (b * d) := sm_b (mul_b x.2.2.2 y.2.2.2) (by omega)
theorem s_bc : Sm (b * c) := sm_b (mul_b x.2.2.2 y.2.2.1) (by omega)
end
theorem p_bd {n m : Nat} {a b c d : Int} (x : NB n (a, b)) (y : NB m (c, d)) : 0 < b * d := Int.mul_pos x.1 y.1
theorem bc_lt {n m : Nat} {a b c d : Int} (x : NB n (a, b)) (y : NB m (c, d)) : b * c < 0 ↔ c < 0 := by
  have hb : 0 < b := x.1
  constructor
  · intro z
    by_cases q : c < 0
    · exact q
    · have := Int.mul_nonneg (Int.le_of_lt hb) (show 0 ≤ c by omega)
      omega
  · exact fun z => Int.mul_neg_of_pos_of_neg hb z
section
variable {n m : Nat} {a b c d : Int} (x : NB n (a, b)) (y : NB m (c, d)) (hn : n + m ≤ 3900) (h : AHeap)
include x y hn
theorem ratio_plus_ev : F_ratio_plus [.tup [.int a, .int b], .tup [.int c, .int d]] h = .ok (rat (a * d + c * b) (b * d)) h := by
  have q := fun h => lowest_ev (a * d + c * b) (b * d) h (p_bd x y) (s_bd x y hn)
  have m1 := m_ad x y hn
  have m2 := m_ca x y hn
  have m4 := m_bd x y hn
  unfold F_ratio_plus m_ratio_plus
  walk_at "ev"
theorem ratio_minus_ev : F_ratio_minus [.tup [.int a, .int b], .tup [.int c, .int d]] h = .ok (rat (a * d - c * b) (b * d)) h := by
  have q := fun h => lowest_ev (a * d - c * b) (b * d) h (p_bd x y) (s_bd x y hn)
  have m1 := m_ad x y hn
  have m2 := m_ca x y hn
  have m4 := m_bd x y hn
  unfold F_ratio_minus m_ratio_minus
  walk_at "ev"
theorem ratio_times_ev : F_ratio_times [.tup [.int a, .int b], .tup [.int c, .int d]] h = .ok (rat (a * c) (b * d)) h := by
  have q := fun h => lowest_ev (a * c) (b * d) h (p_bd x y) (s_bd x y hn)
  have m3 := m_ac x y hn
  have m4 := m_bd x y hn
  unfold F_ratio_times m_ratio_times
  walk_at "ev"
theorem law_plus_ev : F__law_plus [.int 0, .tup [.int a, .int b], .tup [.int c, .int d]] h = .ok (rat (a * d + c * b) (b * d)) h := by
  have p := p_bd x y
  have q := fun h => law_make0 (a * d + c * b) (b * d) h (by omega) (s_bd x y hn)
  rw [mk_pos p] at q
  have m1 := m_ad x y hn
  have m2 := m_ca x y hn
  have m4 := m_bd x y hn
  have c2 : decide ((0 : Int) < 0) = false := rfl
  unfold F__law_plus m__law_plus
  walk_at "ev"
theorem law_times_ev : F__law_times [.int 0, .tup [.int a, .int b], .tup [.int c, .int d]] h = .ok (rat (a * c) (b * d)) h := by
  have p := p_bd x y
  have q := fun h => law_make0 (a * c) (b * d) h (by omega) (s_bd x y hn)
  rw [mk_pos p] at q
  have m3 := m_ac x y hn
  have m4 := m_bd x y hn
  have c2 : decide ((0 : Int) < 0) = false := rfl
  unfold F__law_times m__law_times
  walk_at "ev"
end
theorem law_minus_ev {n m : Nat} {a b c d : Int} (x : NB n (a, b)) (y : NB m (c, d)) (hn : n + m ≤ 3890) (h : AHeap) : F__law_minus [.int 0, .tup [.int a, .int b], .tup [.int c, .int d]] h = .ok (rat (a * d - c * b) (b * d)) h := by
  have yn : NB m (0 - c, d) := ⟨y.1, by rw [gcd_neg]; exact y.2.1, by have : c.natAbs < 2 ^ m := y.2.2.1; show (0 - c).natAbs < _; omega, y.2.2.2⟩
  have q1 : ∀ h, F__law_make [.int 0, .int (-1), .int 1] h = .ok (.tup [.int (-1), .int 1]) h := fun h => law_make0 (-1) 1 h (by decide) (sm_small (by decide) (by decide))
  have q2 : ∀ h, F__law_times [.int 0, .tup [.int (-1), .int 1], .tup [.int c, .int d]] h = .ok (.tup [.int (0 - c), .int d]) h := fun h => by
    rw [law_times_ev NB.m1 y (by omega) h, rat_pA, show -1 * c = 0 - c by omega, Int.one_mul, rt_self yn.2.1]
    rfl
  have q3 := fun h => law_plus_ev x yn (by omega) h
  have e : a * d + (0 - c) * b = a * d - c * b := by
    rw [Int.sub_mul, Int.zero_mul]
    omega
  rw [e] at q3
  have e2 : (0 : Int) - 1 = -1 := rfl
  unfold F__law_minus m__law_minus
  clear x y yn
  walk_at "ev"
theorem is_whole_ev (t : Int) (h : AHeap) : F_is_whole [.int t, .non, .non] h = .ok (.bl true) h := by
  unfold F_is_whole m_is_whole
  walk_at "ev"
theorem is_whole1_ev (t l : Int) (h : AHeap) : F_is_whole [.int t, .int l, .non] h = .ok (.bl (decide (l ≤ t))) h := by
  unfold F_is_whole m_is_whole
  cases e : decide (l ≤ t) <;> walk_at "ev"
theorem is_whole2_ev (t l u : Int) (h : AHeap) : F_is_whole [.int t, .int l, .int u] h = .ok (.bl (decide (l ≤ t) && decide (t ≤ u))) h := by
  unfold F_is_whole m_is_whole
  cases e : decide (l ≤ t) <;> walk_at "ev"
def cmp3 (l r : Int) : Int := if l < r then -1 else if r < l then 1 else 0
section
variable {n m : Nat} {a b c d : Int} (x : NB n (a, b)) (y : NB m (c, d)) (hn : n + m ≤ 3900) (h : AHeap)
include x y hn
end
section
variable {n m : Nat} {a b c d : Int} (h : AHeap)
theorem fn_plus0 (x : NB n (a, b)) (y : NB m (c, d)) (hn : n + m ≤ 3900) : F_Field_plus [fld .non, .tup [.int a, .int b], .tup [.int c, .int d]] h = .ok (rat (a * d + c * b) (b * d)) h := by
  have q := fun h => ratio_plus_ev x y hn h
  unfold F_Field_plus m_Field_plus
  walk_at "ev"
theorem fn_minus0 (x : NB n (a, b)) (y : NB m (c, d)) (hn : n + m ≤ 3900) : F_Field_minus [fld .non, .tup [.int a, .int b], .tup [.int c, .int d]] h = .ok (rat (a * d - c * b) (b * d)) h := by
  have q := fun h => ratio_minus_ev x y hn h
  unfold F_Field_minus m_Field_minus
  walk_at "ev"
theorem fn_times0 (x : NB n (a, b)) (y : NB m (c, d)) (hn : n + m ≤ 3900) : F_Field_times [fld .non, .tup [.int a, .int b], .tup [.int c, .int d]] h = .ok (rat (a * c) (b * d)) h := by
  have q := fun h => ratio_times_ev x y hn h
  unfold F_Field_times m_Field_times
  walk_at "ev"
end
theorem is_prime_ev {p : Int} (hp : p ∈ primes) (h : AHeap) : F_is_prime [.int p] h = .ok (.bl true) h := by
  obtain ⟨p2, p97⟩ := pr_rng p hp
  have ei : iR2 (mCons (mC (.int 2)) (mCons (mVar 0) (mNil))) [some (.int p), none] h = .ok (rng 2 (p - 2).toNat) h := iR2_ev rfl (by omega) (by omega) (by omega) (by omega)
  obtain ⟨ρ', h', e, ⟨z, hz, hh⟩⟩ := mFor_run (g := gNm 1) (b := b0_is_prime) (I := fun l ρ k => (∃ z, ρ = [some (.int p), z]) ∧ k = h ∧ ∃ (m : Int) (n : Nat), 2 ≤ m ∧ m + n = p ∧ l = rng m n) ei
    ⟨⟨_, rfl⟩, rfl, 2, _, by omega, by omega, rfl⟩
    (by
      rintro d l ρ k ⟨⟨z, rfl⟩, rfl, m, n, hm, hn, el⟩
      obtain ⟨rfl, n', rfl, rfl⟩ := rng_cons el
      have q := pr_no hp hm (by omega)
      have f1 : p.fmod m = p % m := fmod_pos (by omega)
      have nz : ¬ m = 0 := by omega
      have qb : (p % m == 0) = false := by simpa using q
      refine ⟨[some (.int p), some (.int m)], k, ⟨[some (.int p), some (.int m)], k, rfl, .inl ?_⟩, ⟨_, rfl⟩, rfl, m + 1, n', by omega, by omega, rfl⟩
      unfold b0_is_prime
      clear hp p2 p97 ei el hm hn
      walk_at "fo")
  obtain ⟨z, rfl⟩ := z
  subst hz
  unfold F_is_prime m_is_prime
  simp only [noX, fnOf, List.map_cons, List.map_nil, List.length_cons, List.length_nil, List.cons_append, List.nil_append, Nat.reduceAdd, Nat.reduceSub, List.replicate_succ, List.replicate_zero, mSeq, e, mRet, mC]
theorem init_p {p : Int} (hp : p ∈ primes) (h : AHeap) : F_Field___init__ [.ref h.length, .int p] (h ++ [some (.ins "Field" [] [])]) = .ok .non (h ++ [some (.ins "Field" ["prime"] [.int p])]) := by
  obtain ⟨p2, p97⟩ := pr_rng p hp
  have q1 := fun h => is_whole2_ev p 2 97 h
  have q2 := is_prime_ev hp
  have z1 : decide (2 ≤ p) = true := by simpa using p2
  have z2 : decide (p ≤ 97) = true := by simpa using p97
  rw [z1, z2] at q1
  have e1 : (h ++ [some (MO.ins "Field" [] [])])[h.length]? = some (some (MO.ins "Field" [] [])) := by
    rw [List.getElem?_append_right (Nat.le_refl _), Nat.sub_self] <;> rfl
  have e2 : ∀ x, (h ++ [some (MO.ins "Field" [] [])]).set h.length x = h ++ [x] := fun x => by
    rw [List.set_append_right _ _ (Nat.le_refl _), Nat.sub_self] <;> rfl
  unfold F_Field___init__ m_Field___init__
  clear hp p2 p97
  walk_at "fo"
  simp [Mi.putK, Mi.putL]
theorem init_n (h : AHeap) : F_Field___init__ [.ref h.length, .non] (h ++ [some (.ins "Field" [] [])]) = .ok .non (h ++ [some (.ins "Field" ["prime"] [.non])]) := by
  have e1 : (h ++ [some (MO.ins "Field" [] [])])[h.length]? = some (some (MO.ins "Field" [] [])) := by
    rw [List.getElem?_append_right (Nat.le_refl _), Nat.sub_self] <;> rfl
  have e2 : ∀ x, (h ++ [some (MO.ins "Field" [] [])]).set h.length x = h ++ [x] := fun x => by
    rw [List.set_append_right _ _ (Nat.le_refl _), Nat.sub_self] <;> rfl
  unfold F_Field___init__ m_Field___init__
  walk_at "fo"
  simp [Mi.putK, Mi.putL]
theorem law_make_p {p b i : Int} (t : Int) (hp : p ∈ primes) (hi : IsInv p b i) (h : AHeap) : F__law_make [.int p, .int t, .int b] h = .ok (.tup [.int (t * i % p), .int 1]) h := by
  obtain ⟨p2, p97⟩ := pr_rng p hp
  have ei : iR1 (mCons (mVar 0) (mNil)) [some (.int p), some (.int t), some (.int b), some (.int 0), none, none] h = .ok (rng 0 p.toNat) h := iR1_ev rfl (by omega) (by omega)
  obtain ⟨ρ', h', e, ⟨z, m, n, hρ, hm0, hmn, hz⟩, hh⟩ := mFor_run (g := gNm 4) (b := b0__law_make) (I := fun l ρ k => (∃ (z : Option AV) (m : Int) (n : Nat), ρ = [some (.int p), some (.int t), some (.int b), some (.int (if i < m then i else 0)), z, none] ∧ 0 ≤ m ∧ m + n = p ∧ l = rng m n) ∧ k = h) ei
    ⟨⟨none, 0, _, by rw [if_neg (by have := hi.1; omega)], by omega, by omega, rfl⟩, rfl⟩
    (by
      rintro d l ρ k ⟨⟨z, m, n, rfl, hm, hn, el⟩, rfl⟩
      obtain ⟨rfl, n', rfl, rfl⟩ := rng_cons el
      have f1 : (b * m).fmod p = b * m % p := fmod_pos (by omega)
      have np : ¬ p = 0 := by omega
      have a2 : mulOk b m = true := mul_r (by omega) (by omega)
      refine ⟨[some (.int p), some (.int t), some (.int b), some (.int (if i < m + 1 then i else 0)), some (.int m), none], k, ⟨[some (.int p), some (.int t), some (.int b), some (.int (if i < m then i else 0)), some (.int m), none], k, rfl, .inl ?_⟩, ⟨some (.int m), m + 1, n', rfl, by omega, by omega, rfl⟩, rfl⟩
      unfold b0__law_make
      by_cases c : b * m % p = 1
      · have e : i = m := hi.uniq ⟨hm, by omega, (dvd1 p2).mpr c⟩
        rw [if_pos (show i < m + 1 by omega)]
        have cb : (b * m % p == 1) = true := by simpa using c
        clear c hi hp p2 p97 ei hn el
        walk_at "fo"
      · have ne : i ≠ m := fun z => c (by rw [← z]; exact (dvd1 p2).mp hi.2.2)
        have e3 : (if i < m + 1 then i else 0) = if i < m then i else 0 := by
          by_cases q : i < m
          · rw [if_pos q, if_pos (by omega)]
          · rw [if_neg q, if_neg (by omega)]
        rw [e3]
        have cb : (b * m % p == 1) = false := by simpa using c
        clear c hi hp p2 p97 ei hn el e3
        walk_at "fo")
  have n0 : n = 0 := rng_nil hz.symm
  subst n0
  have e2 : m = p := by omega
  subst e2
  rw [if_pos hi.2.1] at hρ
  subst hρ hh
  have c1 : decide (0 < m) = true := by
    rw [decide_eq_true_eq]
    omega
  have a3 : mulOk t i = true := mul_r (by have := hi.1; omega) (by have := hi.2.1; omega)
  have f2 : (t * i).fmod m = t * i % m := fmod_pos (by omega)
  have np : ¬ m = 0 := by omega
  unfold F__law_make m__law_make
  simp only [mFor] at e
  clear hi hp p2 p97 hm0 hmn hz ei
  simp only [noX, fnOf, mSeq, mNext, mAsg, gNm, mIfS, mTst, mOp, mVar, mC, mCons, mNil, mTup, mRet, mCB, aInt_int, List.map_cons, List.map_nil, List.length_cons, List.length_nil, List.cons_append, List.nil_append, List.replicate_succ, List.replicate_zero, Nat.reduceAdd, Nat.reduceSub, List.getElem?_cons_zero, List.getElem?_cons_succ, List.set_cons_zero, List.set_cons_succ, aMul_int, aMod_int, aCmp_int, sizeLine_eq, Nat.reduceLeDiff, ↓reduceIte, mFor, if_true, *]
theorem npm {p : Int} (hp : p ∈ primes) (x : Int) : 0 ≤ x % p ∧ x % p < p := by
  have := pr_rng p hp
  exact ⟨Int.emod_nonneg _ (by omega), Int.emod_lt_of_pos _ (by omega)⟩
def Np (p a : Int) : Prop := 0 ≤ a ∧ a < p
section
variable {p a c : Int} (hp : p ∈ primes) (x : Np p a) (y : Np p c) (h : AHeap)
include hp
theorem law_plus_p : F__law_plus [.int p, .tup [.int a, .int 1], .tup [.int c, .int 1]] h = .ok (.tup [.int ((a + c) % p), .int 1]) h := by
  have z5 := pr_pos hp
  have z6 := pr_ne hp
  have z7 := pr_f hp
  unfold F__law_plus m__law_plus
  walk_at "fo"
theorem fn_plus_p : F_Field_plus [fld (.int p), .tup [.int a, .int 1], .tup [.int c, .int 1]] h = .ok (.tup [.int ((a + c) % p), .int 1]) h := by
  have z6 := pr_ne hp
  have z7 := pr_f hp
  unfold F_Field_plus m_Field_plus
  walk_at "fo"
theorem fn_minus_p : F_Field_minus [fld (.int p), .tup [.int a, .int 1], .tup [.int c, .int 1]] h = .ok (.tup [.int ((a - c) % p), .int 1]) h := by
  have z6 := pr_ne hp
  have z7 := pr_f hp
  unfold F_Field_minus m_Field_minus
  walk_at "fo"
include x
theorem np_mul : mulOk a c = true := mul_l (by have := x.1; omega) (by have := x.2; have := pr_rng p hp; omega)
theorem law_times_p : F__law_times [.int p, .tup [.int a, .int 1], .tup [.int c, .int 1]] h = .ok (.tup [.int (a * c % p), .int 1]) h := by
  have z5 := pr_pos hp
  have z6 := pr_ne hp
  have z7 := pr_f hp
  have z8 := np_mul (c := c) hp x
  unfold F__law_times m__law_times
  walk_at "ev"
theorem fn_times_p : F_Field_times [fld (.int p), .tup [.int a, .int 1], .tup [.int c, .int 1]] h = .ok (.tup [.int (a * c % p), .int 1]) h := by
  have z6 := pr_ne hp
  have z7 := pr_f hp
  have z8 := np_mul (c := c) hp x
  unfold F_Field_times m_Field_times
  walk_at "ev"
theorem law_minus_p : F__law_minus [.int p, .tup [.int a, .int 1], .tup [.int c, .int 1]] h = .ok (.tup [.int ((a - c) % p), .int 1]) h := by
  have p2 := pr_rng p hp
  have q1 : ∀ h, F__law_make [.int p, .int (-1), .int 1] h = .ok (.tup [.int (-1 % p), .int 1]) h := fun h => law_make_p (i := 1) (-1) hp ⟨by omega, by omega, ⟨0, by omega⟩⟩ h
  have q2 := fun h => law_times_p (c := c) hp (npm hp (-1)) h
  have q3 := fun h => law_plus_p (a := a) (c := -1 % p * c % p) hp h
  have e : (a + -1 % p * c % p) % p = (a - c) % p := by
    rw [Int.add_emod, Int.emod_emod_of_dvd _ (Int.dvd_refl p), ← Int.add_emod, Int.add_emod, Int.mul_emod, Int.emod_emod_of_dvd _ (Int.dvd_refl p), ← Int.mul_emod, ← Int.add_emod]
    congr 1
    omega
  rw [e] at q3
  have e2 : (0 : Int) - 1 = -1 := rfl
  unfold F__law_minus m__law_minus
  clear e
  walk_at "ev"
include y
end
def Bag (n : Nat) (h : AHeap) (c : Nat) : Prop := ∃ (C : List AV) (T r : Int), h[c]? = some (some (.lst [.lst C, .int T, .int r])) ∧ C ≠ [] ∧ (∀ v ∈ C, ∃ x, v = .int x ∧ 0 ≤ x) ∧ 0 ≤ T ∧ T ≤ n ∧ 0 ≤ r
theorem Bag.more {n m : Nat} {h : AHeap} {c : Nat} (b : Bag n h c) (hm : n ≤ m) : Bag m h c := by
  obtain ⟨C, T, r, e, h1, h2, h3, h4, h5⟩ := b
  exact ⟨C, T, r, e, h1, h2, h3, by omega, h5⟩
theorem Bag.lt {n : Nat} {h : AHeap} {c : Nat} (b : Bag n h c) : c < h.length := by
  obtain ⟨C, T, r, e, _⟩ := b
  exact (List.getElem?_eq_some_iff.mp e).1
theorem set_at {h : AHeap} {c : Nat} {x : Option MO} (hc : c < h.length) : (h.set c x)[c]? = some x := List.getElem?_set_self hc
theorem mod_at {C : List AV} (hC : C ≠ []) (all : ∀ v ∈ C, ∃ x, v = .int x ∧ 0 ≤ x) (T : Int) : ((C.length : Int) ≠ 0) ∧ ∃ x, aAt C (T.fmod (C.length : Int)) = some (.int x) ∧ 0 ≤ x := by
  have l0 : 0 < C.length := List.length_pos_iff.mpr hC
  refine ⟨by omega, ?_⟩
  rw [fmod_pos (show 0 < (C.length : Int) by omega)]
  have r0 := Int.emod_nonneg T (show (C.length : Int) ≠ 0 by omega)
  have r1 := Int.emod_lt_of_pos T (show 0 < (C.length : Int) by omega)
  obtain ⟨k, hk⟩ := Int.eq_ofNat_of_zero_le r0
  have hk2 : k < C.length := by omega
  obtain ⟨x, hx, h0⟩ := all C[k] (List.getElem_mem hk2)
  exact ⟨x, by rw [hk]; exact aAt_nat (by rw [List.getElem?_eq_getElem hk2, hx]), h0⟩
theorem draw_ev {n : Nat} {h : AHeap} {c : Nat} {L : Int} (b : Bag n h c) (hn : n < 1000) (hL : 0 < L) (sL : Sm L) : ∃ v X, F__law_draw [.ref c, .int L] h = .ok (.int v) (h.set c X) ∧ 0 ≤ v ∧ v < L ∧ Bag (n + 1) (h.set c X) c := by
  have hc := b.lt
  obtain ⟨C, T, r, e, h1, h2, h3, h4, h5⟩ := b
  have nL : ¬ L = 0 := by omega
  have fL : ∀ x : Int, x.fmod L = x % L := fun x => fmod_pos hL
  have dL : ∀ x : Int, divOk x L = true := fun x => div_sm nL sL
  have qL : ∀ x : Int, x.fdiv L = x / L := fun x => fdiv_pos hL
  by_cases r0 : 0 < r
  · have r1 : decide (0 < r) = true := by simpa using r0
    have g2 : aIx (.ref c) (.int 2) h = some (.int r) := by
      unfold aIx getL
      dsimp only
      rw [e]
      exact aAt_2
    refine ⟨r % L, some (.lst [.lst C, .int T, .int (r / L)]), ?_, Int.emod_nonneg _ nL, Int.emod_lt_of_pos _ hL, C, T, r / L, set_at hc, h1, h2, h3, by omega, Int.ediv_nonneg h5 (by omega)⟩
    unfold F__law_draw m__law_draw
    clear h1 h2 h3 h4 h5 hL sL hn hc
    walk_at "ev"
  · have r1 : decide (0 < r) = false := by simpa using r0
    have g2 : aIx (.ref c) (.int 2) h = some (.int r) := by
      unfold aIx getL
      dsimp only
      rw [e]
      exact aAt_2
    have g1 : aIx (.ref c) (.int 1) h = some (.int T) := by
      unfold aIx getL
      dsimp only
      rw [e]
      exact aAt_1
    have e2 : (h.set c (some (.lst [.lst C, .int (T + 1), .int r])))[c]? = some (some (.lst [.lst C, .int (T + 1), .int r])) := set_at hc
    have g0 : aIx (.ref c) (.int 0) (h.set c (some (.lst [.lst C, .int (T + 1), .int r]))) = some (.lst C) := by
      unfold aIx getL
      dsimp only
      rw [e2]
      exact aAt_0
    obtain ⟨l0, x, ex, x0⟩ := mod_at h1 h2 T
    have g3 : ∀ h, aIx (.lst C) (.int (T.fmod (C.length : Int))) h = some (.int x) := fun h => ex
    by_cases z : T < (C.length : Int) ∧ 1000000000000000000 ≤ x
    · have z1 : decide (T < (C.length : Int)) = true := by simpa using z.1
      have z2 : decide (1000000000000000000 ≤ x) = true := by simpa using z.2
      refine ⟨x % L, some (.lst [.lst C, .int (T + 1), .int (x / L)]), ?_, Int.emod_nonneg _ nL, Int.emod_lt_of_pos _ hL, C, T + 1, x / L, set_at hc, h1, h2, by omega, by omega, Int.ediv_nonneg x0 (by omega)⟩
      unfold F__law_draw m__law_draw
      clear h1 h2 h3 h4 h5 hL sL hn hc x0 z
      walk_at "ev"
    · have m1 : mulOk (x + 17) 48271 = true := mul_r (by decide) (by decide)
      have m2 : mulOk T T = true := mul_l (by omega) (by omega)
      have m3 : mulOk (T * T) 7919 = true := mul_r (by decide) (by decide)
      have m4 : mulOk T 104729 = true := mul_r (by decide) (by decide)
      have m5 : ∀ y, mulOk y 69621 = true := fun y => mul_r (by decide) (by decide)
      have m6 : mulOk (T + 3) 40692 = true := mul_r (by decide) (by decide)
      have m7 : ∀ y, divOk y 8 = true := fun y => div_sm (by decide) (sm_small (by decide) (by decide))
      have k1 : ¬ ((2147483647 : Int) = 0) := by decide
      have k2 : ¬ ((2147483399 : Int) = 0) := by decide
      let m : Int := (((x + 17) * 48271 + T * T * 7919 + T * 104729).fmod 2147483647 * 69621 + (T + 3) * 40692).fmod 2147483399
      refine ⟨(m.fdiv 8) % L, some (.lst [.lst C, .int (T + 1), .int r]), ?_, Int.emod_nonneg _ nL, Int.emod_lt_of_pos _ hL, C, T + 1, r, set_at hc, h1, h2, by omega, by omega, h5⟩
      unfold F__law_draw m__law_draw
      by_cases z3 : T < (C.length : Int)
      · have z1 : decide (T < (C.length : Int)) = true := by simpa using z3
        have z2 : decide (1000000000000000000 ≤ x) = false := by
          rw [decide_eq_false_iff_not]
          exact fun w => z ⟨z3, w⟩
        clear h1 h2 h3 h4 h5 hL sL hn hc x0 z z3
        walk_at "ev"
        rfl
      · have z1 : decide (T < (C.length : Int)) = false := by simpa using z3
        clear h1 h2 h3 h4 h5 hL sL hn hc x0 z z3
        walk_at "ev"
        rfl
theorem cut63 (l : List AV) (hl : l.length ≤ 63) : cutA l none (some 63) = l := by
  unfold cutA
  rw [HT.sIx_none, show (63 : Int) = ((63 : Nat) : Int) from rfl, HT.sIx_nat, List.drop_zero, Nat.sub_zero, List.take_of_length_le (by omega)]
theorem bag_ev (ns : List Int) (hn : ns.length ≤ 63) : ∃ X, F__law_bag [.lstR (ns.map .int)] [] = .ok (.ref 0) [X] ∧ Bag 0 [X] 0 := by
  have ei : (iSq (mSl (mVar 0) oNone (oSome (mC (.int 63))))) [some (.lstR (ns.map .int)), none, none] [] = .ok (ns.map .int) [] := by
    simp only [iSq, mSl, mVar, List.getElem?_cons_zero, oNone, oSome, mC, aSl, getL, isT, Bool.false_eq_true, ↓reduceIte, cut63 (ns.map AV.int) (by rw [List.length_map]; exact hn), frzL]
  have lc := mLc_pure (own := [2]) (g := gNm 2) (tt := mYes) (e := e0__law_bag) ei (fun _ => true) (fun v => match v with
      | .int i => .int (i.natAbs : Int)
      | v => v) (by
    intro x hx acc
    obtain ⟨i, _, rfl⟩ := List.mem_map.mp hx
    refine ⟨_, rfl, rfl, fun _ => ?_⟩
    unfold e0__law_bag
    simp only [mCB, mCons, mNil, mVar, wipeA, List.set_cons_succ, List.set_cons_zero, List.getElem?_cons_succ, List.getElem?_cons_zero, aAbs_int]) (by
    intro x hx _
    obtain ⟨i, _, rfl⟩ := List.mem_map.mp hx
    rfl) (by rw [List.length_map, sizeLine_eq]; omega)
  have all : ∀ v ∈ ((ns.map AV.int).filter fun _ => true).map (fun v => match v with
      | .int i => .int (i.natAbs : Int)
      | v => v), ∃ x, v = AV.int x ∧ 0 ≤ x := by
    intro v hv
    obtain ⟨x, hx, rfl⟩ := List.mem_map.mp hv
    obtain ⟨i, _, rfl⟩ := List.mem_map.mp (List.mem_filter.mp hx).1
    exact ⟨_, rfl, by omega⟩
  generalize ((ns.map AV.int).filter fun _ => true).map (fun v => match v with
      | .int i => AV.int (i.natAbs : Int)
      | v => v) = C at lc all
  unfold F__law_bag m__law_bag
  by_cases z : C = []
  · subst z
    have z2 : ((0 : Int) == 0) = true := rfl
    refine ⟨some (.lst [.lst [.int 5], .int 0, .int 0]), ?_, [.int 5], 0, 0, rfl, by simp, ?_, by omega, by omega, by omega⟩
    · have e0 : (([] : List AV).length : Int) = 0 := rfl
      simp only [List.length_nil] at e0
      clear all ei
      walk_at "ev"
    · intro v hv
      have : v = .int 5 := by simpa using hv
      exact ⟨5, this, by decide⟩
  · have z1 : ((C.length : Int) == 0) = false := by
      have := List.length_pos_iff.mpr z
      rw [beq_eq_false_iff_ne]
      omega
    refine ⟨some (.lst [.lst C, .int 0, .int 0]), ?_, C, 0, 0, rfl, z, all, by omega, by omega, by omega⟩
    clear all ei z
    walk_at "ev"
theorem seq_nx {a b : MS} {ρ ρ1 : Env2} {h h1 : AHeap} (e : a ρ h = .ok .nx ρ1 h1) : mSeq a b ρ h = b ρ1 h1 := by
  unfold mSeq
  rw [e]
theorem bag_cons {n : Nat} {A : Option MO} {r s : AHeap} (b : Bag n (A :: r) 0) : Bag n (A :: s) 0 := b
def fv (p : Int) : AV := if p = 0 then fld .non else fld (.int p)
theorem fv0 : fv 0 = fld .non := rfl
theorem fvp {p : Int} (hp : p ∈ primes) : fv p = fld (.int p) := if_neg (pr_ne hp)
theorem isC_fv {p : Int} {m : Str} (hm : m ≠ "prime") (h : AHeap) : isC "Field" m h (fv p) = true := by
  have e : ∀ x, isC "Field" m h (fld x) = true := fun x => by
    unfold fld isC
    simp [hm]
  unfold fv
  split <;> exact e _
theorem mk_fn (ρ : Env2) (h : AHeap) : mMake "Field" 2 F_Field___init__ [.non] mNil ρ h = .ok (fld .non) h := mMake_of (l := []) (h1 := h) rfl rfl (init_n h) rfl
theorem mk_fp {p : Int} (hp : p ∈ primes) {ρ : Env2} (e : ρ[2]? = some (some (.int p))) (h : AHeap) : mMake "Field" 2 F_Field___init__ [] (mCons (mVar 2) mNil) ρ h = .ok (fld (.int p)) h := mMake_of (l := [.int p]) (h1 := h) (by simp only [mCons, mVar, mNil, e]) rfl (init_p hp h) rfl
end W

set_option maxRecDepth 100000
set_option maxHeartbeats 4000000
namespace W
open PySem PySem.Spec L2 Mi
local macro_rules | `(tactic| walk_at "ev") => `(tactic| simp only [noX, fnOf, mSeq, mNext, mAsg, gNm, mIfS, mTst, mTru, mOp, mUn, mVar, mC, mCons, mNil, mTup, mLst, mRet, mCall, mMeth, mCB, mIf, mAnd, mOr, mNot, mAndV, mOrV, mNotV, mNotT, mPar, mDrop, isLc, beq_self_eq_true, mLstC, ixN3_1, ixN3_2, pow18, pow30, pow6, List.set_set, gTp, gsCons, gsNil, mSetAt, mSetIx, mApp, mExt, mFrz, mChain, at_f0, List.map_cons, List.map_nil, List.length_cons, List.length_nil, List.cons_append, List.nil_append, List.append_nil, List.replicate_succ, List.replicate_zero, Nat.reduceAdd, Nat.reduceSub, List.getElem?_cons_zero, List.getElem?_cons_succ, List.set_cons_zero, List.set_cons_succ, aAt_0, aAt_1, aAt_2, aEq_int, aNe_int, aEq_t2, aNe_t2, aNe_ni, aNe_in, aNe_nn, aIx_t, aIx_l, aAdd_int, aSub_int, aMul_int, aMod_int, aFdiv_int, aCmp_int, aIs_n, aIsNot_n, aIsNot_b, tr_bl, tr_lst, isi_ii, isi_ib, isi_tt, aInt_int, aAbs_int, aLen_tup, aLen_lst, isN, sizeLine_eq, Nat.reduceLeDiff, Nat.reduceLT, ↓reduceIte, decide_true, decide_false, eq_self, if_true, Bool.false_eq_true, Bool.not_true, Bool.not_false, Bool.true_and, Bool.and_true, Bool.false_and, Bool.and_false, *])
local macro_rules | `(tactic| walk_at "fo") => `(tactic| simp only [noX, fnOf, mSeq, mNext, mAsg, gNm, mIfS, mTst, mTru, mOp, mUn, mVar, mC, mCons, mNil, mTup, mLst, mRet, mCall, mMeth, mCB, mIf, mAnd, mOr, mNot, mAndV, mOrV, mNotV, mNotT, mPar, mDrop, isLc, beq_self_eq_true, mLstC, mFor, iSq, frzL, forL, ixN3_1, ixN3_2, pow18, pow30, pow6, List.set_set, gTp, gsCons, gsNil, mSetAt, mSetIx, mApp, mExt, mFrz, mChain, at_f0, List.map_cons, List.map_nil, List.length_cons, List.length_nil, List.cons_append, List.nil_append, List.append_nil, List.replicate_succ, List.replicate_zero, Nat.reduceAdd, Nat.reduceSub, List.getElem?_cons_zero, List.getElem?_cons_succ, List.set_cons_zero, List.set_cons_succ, aAt_0, aAt_1, aAt_2, aEq_int, aNe_int, aEq_t2, aNe_t2, aNe_ni, aNe_in, aNe_nn, aIx_t, aIx_l, aAdd_int, aSub_int, aMul_int, aMod_int, aFdiv_int, aCmp_int, aIs_n, aIsNot_n, aIsNot_b, tr_bl, tr_lst, isi_ii, isi_ib, isi_tt, aInt_int, aAbs_int, aLen_tup, aLen_lst, isN, sizeLine_eq, Nat.reduceLeDiff, Nat.reduceLT, ↓reduceIte, decide_true, decide_false, eq_self, if_true, Bool.false_eq_true, Bool.not_true, Bool.not_false, Bool.true_and, Bool.and_true, Bool.false_and, Bool.and_false, *])
theorem fplus_ev {p : Int} {n m : Nat} {x y : Int × Int} (hx : Num p n x) (hy : Num p m y) (hn : n + m ≤ 3900) (h : AHeap) : F_Field_plus [fv p, pA x, pA y] h = .ok (pA (qplus p x y)) h := by
  obtain ⟨a, b⟩ := x
  obtain ⟨c, d⟩ := y
  unfold qplus
  rcases hx with ⟨rfl, hx⟩ | ⟨hp, h0, h1, hb⟩
  · rcases hy with ⟨_, hy⟩ | ⟨w, _⟩
    · rw [if_pos rfl]
      exact fn_plus0 h hx hy hn
    · exact absurd rfl (pr_ne w)
  · rcases hy with ⟨rfl, _⟩ | ⟨_, k0, k1, hd⟩
    · exact absurd rfl (pr_ne hp)
    · cases (show b = 1 from hb)
      cases (show d = 1 from hd)
      rw [if_neg (pr_ne hp), fvp hp]
      exact fn_plus_p hp h
theorem lplus_ev {p : Int} {n m : Nat} {x y : Int × Int} (hx : Num p n x) (hy : Num p m y) (hn : n + m ≤ 3900) (h : AHeap) : F__law_plus [.int p, pA x, pA y] h = .ok (pA (qplus p x y)) h := by
  obtain ⟨a, b⟩ := x
  obtain ⟨c, d⟩ := y
  unfold qplus
  rcases hx with ⟨rfl, hx⟩ | ⟨hp, h0, h1, hb⟩
  · rcases hy with ⟨_, hy⟩ | ⟨w, _⟩
    · rw [if_pos rfl]
      exact law_plus_ev hx hy hn h
    · exact absurd rfl (pr_ne w)
  · rcases hy with ⟨rfl, _⟩ | ⟨_, k0, k1, hd⟩
    · exact absurd rfl (pr_ne hp)
    · cases (show b = 1 from hb)
      cases (show d = 1 from hd)
      rw [if_neg (pr_ne hp)]
      exact law_plus_p hp h
theorem fminus_ev {p : Int} {n m : Nat} {x y : Int × Int} (hx : Num p n x) (hy : Num p m y) (hn : n + m ≤ 3890) (h : AHeap) : F_Field_minus [fv p, pA x, pA y] h = .ok (pA (qminus p x y)) h := by
  obtain ⟨a, b⟩ := x
  obtain ⟨c, d⟩ := y
  unfold qminus
  rcases hx with ⟨rfl, hx⟩ | ⟨hp, h0, h1, hb⟩
  · rcases hy with ⟨_, hy⟩ | ⟨w, _⟩
    · rw [if_pos rfl]
      exact fn_minus0 h hx hy (by omega)
    · exact absurd rfl (pr_ne w)
  · rcases hy with ⟨rfl, _⟩ | ⟨_, k0, k1, hd⟩
    · exact absurd rfl (pr_ne hp)
    · cases (show b = 1 from hb)
      cases (show d = 1 from hd)
      rw [if_neg (pr_ne hp), fvp hp]
      exact fn_minus_p hp h
theorem lminus_ev {p : Int} {n m : Nat} {x y : Int × Int} (hx : Num p n x) (hy : Num p m y) (hn : n + m ≤ 3890) (h : AHeap) : F__law_minus [.int p, pA x, pA y] h = .ok (pA (qminus p x y)) h := by
  obtain ⟨a, b⟩ := x
  obtain ⟨c, d⟩ := y
  unfold qminus
  rcases hx with ⟨rfl, hx⟩ | ⟨hp, h0, h1, hb⟩
  · rcases hy with ⟨_, hy⟩ | ⟨w, _⟩
    · rw [if_pos rfl]
      exact law_minus_ev hx hy hn h
    · exact absurd rfl (pr_ne w)
  · rcases hy with ⟨rfl, _⟩ | ⟨_, k0, k1, hd⟩
    · exact absurd rfl (pr_ne hp)
    · cases (show b = 1 from hb)
      cases (show d = 1 from hd)
      rw [if_neg (pr_ne hp)]
      exact law_minus_p hp ⟨h0, h1⟩ h
theorem ftimes_ev {p : Int} {n m : Nat} {x y : Int × Int} (hx : Num p n x) (hy : Num p m y) (hn : n + m ≤ 3900) (h : AHeap) : F_Field_times [fv p, pA x, pA y] h = .ok (pA (qtimes p x y)) h := by
  obtain ⟨a, b⟩ := x
  obtain ⟨c, d⟩ := y
  unfold qtimes
  rcases hx with ⟨rfl, hx⟩ | ⟨hp, h0, h1, hb⟩
  · rcases hy with ⟨_, hy⟩ | ⟨w, _⟩
    · rw [if_pos rfl]
      exact fn_times0 h hx hy hn
    · exact absurd rfl (pr_ne w)
  · rcases hy with ⟨rfl, _⟩ | ⟨_, k0, k1, hd⟩
    · exact absurd rfl (pr_ne hp)
    · cases (show b = 1 from hb)
      cases (show d = 1 from hd)
      rw [if_neg (pr_ne hp), fvp hp]
      exact fn_times_p hp ⟨h0, h1⟩ h
theorem ltimes_ev {p : Int} {n m : Nat} {x y : Int × Int} (hx : Num p n x) (hy : Num p m y) (hn : n + m ≤ 3900) (h : AHeap) : F__law_times [.int p, pA x, pA y] h = .ok (pA (qtimes p x y)) h := by
  obtain ⟨a, b⟩ := x
  obtain ⟨c, d⟩ := y
  unfold qtimes
  rcases hx with ⟨rfl, hx⟩ | ⟨hp, h0, h1, hb⟩
  · rcases hy with ⟨_, hy⟩ | ⟨w, _⟩
    · rw [if_pos rfl]
      exact law_times_ev hx hy hn h
    · exact absurd rfl (pr_ne w)
  · rcases hy with ⟨rfl, _⟩ | ⟨_, k0, k1, hd⟩
    · exact absurd rfl (pr_ne hp)
    · cases (show b = 1 from hb)
      cases (show d = 1 from hd)
      rw [if_neg (pr_ne hp)]
      exact law_times_p hp ⟨h0, h1⟩ h

/-! ### rows -/
/-- v stands for the numbers r, as a list or a tuple -/
def RowV (v : AV) (r : List (Int × Int)) : Prop := frzL v = some (r.map pA)
def RowN (p : Int) (n : Nat) (r : List (Int × Int)) : Prop := ∀ x ∈ r, Num p n x
theorem RowN.cons {p : Int} {n : Nat} {x : Int × Int} {r : List (Int × Int)} (h : RowN p n (x :: r)) : Num p n x ∧ RowN p n r := ⟨h x List.mem_cons_self, fun y hy => h y (List.mem_cons_of_mem _ hy)⟩
def pP (z : (Int × Int) × (Int × Int)) : AV := .tup [pA z.1, pA z.2]
theorem zipA_map : ∀ (r s : List (Int × Int)), zipA (r.map pA) (s.map pA) = (r.zip s).map pP
  | [], _ => by
    rw [List.zip_nil_left]
    show zipA [] _ = []
    unfold zipA
    rfl
  | _ :: _, [] => rfl
  | x :: r, y :: s => by
    show AV.tup [pA x, pA y] :: zipA (r.map pA) (s.map pA) = _
    rw [zipA_map r s]
    rfl
theorem iZp_ev {a : MA} {ρ : Env2} {h h1 : AHeap} {u v : AV} {l m : List AV} (e : a ρ h = .ok [u, v] h1) (eu : frzL u = some l) (ev : frzL v = some m) : iZp a ρ h = .ok (zipA l m) h1 := by
  unfold iZp
  rw [e]
  dsimp only
  rw [eu, ev]
theorem iSq_ev {a : ME} {ρ : Env2} {h h1 : AHeap} {u : AV} {l : List AV} (e : a ρ h = .ok u h1) (eu : frzL u = some l) : iSq a ρ h = .ok l h1 := by
  unfold iSq
  rw [e]
  dsimp only
  rw [eu]
theorem aTuple_lst {l : List AV} {h : AHeap} : aTuple [.lst l] h = some (.tup l) := rfl
theorem filt : ∀ l : List AV, (l.filter fun _ => true) = l
  | [] => rfl
  | x :: l => by rw [List.filter_cons_of_pos rfl, filt l]
theorem clsd_pA (x : Int × Int) : clsd (pA x) = true := rfl
theorem clsdL_pA (r : List (Int × Int)) : clsdL (r.map pA) = true := clsdL_of fun v hv => by
  obtain ⟨x, _, rfl⟩ := List.mem_map.mp hv
  rfl
/-- a comprehension over what is written as l.map f, each item's worth as k x -/
theorem lc_map {α : Type} {own : List Nat} {it : MI} {g : MG} {e : ME} {ρ : Env2} {h h1 : AHeap} {l : List α} {f k : α → AV} (ei : it ρ h = .ok (l.map f) h1) (hx : ∀ x ∈ l, ∀ acc, ∃ ρ1, g (f x) (wipeA ρ own) (h1 ++ [some (.lst acc)]) = .ok .nx ρ1 (h1 ++ [some (.lst acc)]) ∧ e ρ1 (h1 ++ [some (.lst acc)]) = .ok (k x) (h1 ++ [some (.lst acc)]))
    (hc : ∀ x ∈ l, clsd (k x) = true) (hl : l.length ≤ sizeLine) : mLc own it g mYes e ρ h = .ok (.lst (l.map k)) h1 := by
  unfold mLc
  rw [ei]
  dsimp only
  have main : ∀ (l : List α) (acc : List AV), (∀ x ∈ l, ∀ acc, ∃ ρ1, g (f x) (wipeA ρ own) (h1 ++ [some (.lst acc)]) = .ok .nx ρ1 (h1 ++ [some (.lst acc)]) ∧ e ρ1 (h1 ++ [some (.lst acc)]) = .ok (k x) (h1 ++ [some (.lst acc)])) → acc.length + l.length ≤ sizeLine →
      lcL h1.length g mYes e (l.map f) (wipeA ρ own) (h1 ++ [some (.lst acc)]) acc = .ok (acc ++ l.map k) (h1 ++ [some (.lst (acc ++ l.map k))]) := by
    intro l
    induction l with
    | nil =>
      intro acc _ _
      show lcL _ _ _ _ [] _ _ _ = _
      unfold lcL
      simp
    | cons x l ih =>
      intro acc hx hl
      obtain ⟨ρ1, e1, e3⟩ := hx x List.mem_cons_self acc
      have at_ : ∀ z, (h1 ++ [some (MO.lst z)])[h1.length]? = some (some (MO.lst z)) := fun z => by
        rw [List.getElem?_append_right (Nat.le_refl _), Nat.sub_self] <;> rfl
      have st : ∀ y z, (h1 ++ [some (MO.lst y)]).set h1.length (some (MO.lst z)) = h1 ++ [some (MO.lst z)] := fun y z => by
        rw [List.set_append_right _ _ (Nat.le_refl _), Nat.sub_self] <;> rfl
      rw [List.length_cons] at hl
      rw [List.map_cons]
      unfold lcL
      rw [e1]
      dsimp only [mYes]
      rw [e3]
      dsimp only
      rw [at_]
      dsimp only
      rw [if_pos (by omega), st, ih (acc ++ [k x]) (fun y hy => hx y (List.mem_cons_of_mem _ hy)) (by rw [List.length_append]; simp; omega), List.map_cons, List.append_assoc] <;> rfl
  rw [main l [] hx (by simpa using hl)]
  dsimp only
  rw [List.nil_append]
  have at_ : ∀ z, (h1 ++ [some (MO.lst z)])[h1.length]? = some (some (MO.lst z)) := fun z => by
    rw [List.getElem?_append_right (Nat.le_refl _), Nat.sub_self] <;> rfl
  have cl : clsdL (l.map k) = true := clsdL_of fun y hy => by
    obtain ⟨x, hx1, rfl⟩ := List.mem_map.mp hy
    exact hc x hx1
  rw [if_pos ⟨cl, DropOk.app _ _, at_ _⟩, List.take_left]
/-- the numbers a, a + 1, .. as they are -/
theorem rng_map (n : Nat) : rng 0 n = (List.range n).map fun (k : Nat) => AV.int (k : Int) := by
  unfold rng
  apply List.map_congr_left
  intro k _
  rw [Int.zero_add]
theorem rt_tup {args : List AV} {n : Nat} {l : List AV} {M : ME} {h : AHeap} (lc : M (args.map some ++ List.replicate (n - args.length) none) h = .ok (.lst l) h) : noX (fnOf (mRet (mCB aTuple (mCons M mNil))) n) args h = .ok (.tup l) h := by
  simp only [noX, fnOf, mRet, mCB, mCons, mNil, lc, aTuple_lst]
theorem small_len {n : Nat} (h : n ≤ 1000) : n ≤ sizeLine := by
  rw [sizeLine_eq]
  omega
def zrow (w : Nat) : List (Int × Int) := (List.range w).map fun _ => (0, 1)
def urow (w i : Nat) : List (Int × Int) := (List.range w).map fun k => if k = i then (1, 1) else (0, 1)
theorem zero_row_ev (w : Nat) (hw : w ≤ 1000) (h : AHeap) : F_zero_row [.int (w : Int)] h = .ok (.tup ((zrow w).map pA)) h := by
  have ei : iR1 (mCons (mVar 0) (mNil)) [some (.int (w : Int)), none] h = .ok ((List.range w).map fun (k : Nat) => AV.int (k : Int)) h := by
    rw [iR1_ev (j := (w : Int)) rfl (by omega) (by omega), Int.toNat_natCast, rng_map]
  have lc := lc_map (own := [1]) (g := gNm 1) (e := e0_zero_row) (k := fun (k : Nat) => pA ((0, 1))) ei (fun x _ acc => ⟨_, rfl, rfl⟩) (fun _ _ => rfl) (by rw [List.length_range]; exact small_len hw)
  have e : (List.range w).map (fun (k : Nat) => pA ((0, 1))) = (zrow w).map pA := by
    unfold zrow
    rw [List.map_map] <;> rfl
  rw [e] at lc
  exact rt_tup lc
theorem law_zero_ev (w : Nat) (hw : w ≤ 1000) (h : AHeap) : F__law_zero [.int (w : Int)] h = .ok (.tup ((zrow w).map pA)) h := by
  have ei : iR1 (mCons (mVar 0) (mNil)) [some (.int (w : Int)), none] h = .ok ((List.range w).map fun (k : Nat) => AV.int (k : Int)) h := by
    rw [iR1_ev (j := (w : Int)) rfl (by omega) (by omega), Int.toNat_natCast, rng_map]
  have lc := lc_map (own := [1]) (g := gNm 1) (e := e0__law_zero) (k := fun (k : Nat) => pA ((0, 1))) ei (fun x _ acc => ⟨_, rfl, rfl⟩) (fun _ _ => rfl) (by rw [List.length_range]; exact small_len hw)
  have e : (List.range w).map (fun (k : Nat) => pA ((0, 1))) = (zrow w).map pA := by
    unfold zrow
    rw [List.map_map] <;> rfl
  rw [e] at lc
  exact rt_tup lc
theorem unit_row_ev (w i : Nat) (hw : w ≤ 1000) (h : AHeap) : F_unit_row [.int (w : Int), .int (i : Int)] h = .ok (.tup ((urow w i).map pA)) h := by
  have ei : iR1 (mCons (mVar 0) (mNil)) [some (.int (w : Int)), some (.int (i : Int)), none] h = .ok ((List.range w).map fun (k : Nat) => AV.int (k : Int)) h := by
    rw [iR1_ev (j := (w : Int)) rfl (by omega) (by omega), Int.toNat_natCast, rng_map]
  have lc := lc_map (own := [2]) (g := gNm 2) (e := e0_unit_row) (k := fun (k : Nat) => pA (if k = i then (1, 1) else (0, 1))) ei (fun x _ acc => ⟨_, rfl, by
    by_cases c : x = i
    · have c1 : ((x : Int) == (i : Int)) = true := by
        rw [beq_iff_eq]
        omega
      rw [if_pos c]
      unfold e0_unit_row
      simp only [wipeA, mIf, mTst, mOp, mVar, mC, mTup, mCons, mNil, aEq_int, List.set_cons_succ, List.set_cons_zero, List.getElem?_cons_succ, List.getElem?_cons_zero, c1, ↓reduceIte] <;> rfl
    · have c1 : ((x : Int) == (i : Int)) = false := by
        rw [beq_eq_false_iff_ne]
        omega
      rw [if_neg c]
      unfold e0_unit_row
      simp only [wipeA, mIf, mTst, mOp, mVar, mC, mTup, mCons, mNil, aEq_int, List.set_cons_succ, List.set_cons_zero, List.getElem?_cons_succ, List.getElem?_cons_zero, c1, Bool.false_eq_true, ↓reduceIte] <;> rfl⟩) (fun _ _ => rfl) (by rw [List.length_range]; exact small_len hw)
  have e : (List.range w).map (fun (k : Nat) => pA (if k = i then (1, 1) else (0, 1))) = (urow w i).map pA := by
    unfold urow
    rw [List.map_map] <;> rfl
  rw [e] at lc
  exact rt_tup lc
theorem law_unit_ev (w i : Nat) (hw : w ≤ 1000) (h : AHeap) : F__law_unit [.int (w : Int), .int (i : Int)] h = .ok (.tup ((urow w i).map pA)) h := by
  have ei : iR1 (mCons (mVar 0) (mNil)) [some (.int (w : Int)), some (.int (i : Int)), none] h = .ok ((List.range w).map fun (k : Nat) => AV.int (k : Int)) h := by
    rw [iR1_ev (j := (w : Int)) rfl (by omega) (by omega), Int.toNat_natCast, rng_map]
  have lc := lc_map (own := [2]) (g := gNm 2) (e := e0__law_unit) (k := fun (k : Nat) => pA (if k = i then (1, 1) else (0, 1))) ei (fun x _ acc => ⟨_, rfl, by
    by_cases c : x = i
    · have c1 : ((x : Int) == (i : Int)) = true := by
        rw [beq_iff_eq]
        omega
      rw [if_pos c]
      unfold e0__law_unit
      simp only [wipeA, mIf, mTst, mOp, mVar, mC, mTup, mCons, mNil, aEq_int, List.set_cons_succ, List.set_cons_zero, List.getElem?_cons_succ, List.getElem?_cons_zero, c1, ↓reduceIte] <;> rfl
    · have c1 : ((x : Int) == (i : Int)) = false := by
        rw [beq_eq_false_iff_ne]
        omega
      rw [if_neg c]
      unfold e0__law_unit
      simp only [wipeA, mIf, mTst, mOp, mVar, mC, mTup, mCons, mNil, aEq_int, List.set_cons_succ, List.set_cons_zero, List.getElem?_cons_succ, List.getElem?_cons_zero, c1, Bool.false_eq_true, ↓reduceIte] <;> rfl⟩) (fun _ _ => rfl) (by rw [List.length_range]; exact small_len hw)
  have e : (List.range w).map (fun (k : Nat) => pA (if k = i then (1, 1) else (0, 1))) = (urow w i).map pA := by
    unfold urow
    rw [List.map_map] <;> rfl
  rw [e] at lc
  exact rt_tup lc
end W

set_option maxRecDepth 100000
set_option maxHeartbeats 4000000
namespace W
open PySem PySem.Spec L2 Mi
local macro_rules | `(tactic| walk_at "ev") => `(tactic| simp only [noX, fnOf, mSeq, mNext, mAsg, gNm, mIfS, mTst, mTru, mOp, mUn, mVar, mC, mCons, mNil, mTup, mLst, mRet, mCall, mMeth, mCB, mIf, mAnd, mOr, mNot, mAndV, mOrV, mNotV, mNotT, mPar, mDrop, isLc, beq_self_eq_true, mLstC, ixN3_1, ixN3_2, pow18, pow30, pow6, List.set_set, gTp, gsCons, gsNil, mSetAt, mSetIx, mApp, mExt, mFrz, mChain, at_f0, List.map_cons, List.map_nil, List.length_cons, List.length_nil, List.cons_append, List.nil_append, List.append_nil, List.replicate_succ, List.replicate_zero, Nat.reduceAdd, Nat.reduceSub, List.getElem?_cons_zero, List.getElem?_cons_succ, List.set_cons_zero, List.set_cons_succ, aAt_0, aAt_1, aAt_2, aEq_int, aNe_int, aEq_t2, aNe_t2, aNe_ni, aNe_in, aNe_nn, aIx_t, aIx_l, aAdd_int, aSub_int, aMul_int, aMod_int, aFdiv_int, aCmp_int, aIs_n, aIsNot_n, aIsNot_b, tr_bl, tr_lst, isi_ii, isi_ib, isi_tt, aInt_int, aAbs_int, aLen_tup, aLen_lst, isN, sizeLine_eq, Nat.reduceLeDiff, Nat.reduceLT, ↓reduceIte, decide_true, decide_false, eq_self, if_true, Bool.false_eq_true, Bool.not_true, Bool.not_false, Bool.true_and, Bool.and_true, Bool.false_and, Bool.and_false, *])
local macro_rules | `(tactic| walk_at "fo") => `(tactic| simp only [noX, fnOf, mSeq, mNext, mAsg, gNm, mIfS, mTst, mTru, mOp, mUn, mVar, mC, mCons, mNil, mTup, mLst, mRet, mCall, mMeth, mCB, mIf, mAnd, mOr, mNot, mAndV, mOrV, mNotV, mNotT, mPar, mDrop, isLc, beq_self_eq_true, mLstC, mFor, iSq, frzL, forL, ixN3_1, ixN3_2, pow18, pow30, pow6, List.set_set, gTp, gsCons, gsNil, mSetAt, mSetIx, mApp, mExt, mFrz, mChain, at_f0, List.map_cons, List.map_nil, List.length_cons, List.length_nil, List.cons_append, List.nil_append, List.append_nil, List.replicate_succ, List.replicate_zero, Nat.reduceAdd, Nat.reduceSub, List.getElem?_cons_zero, List.getElem?_cons_succ, List.set_cons_zero, List.set_cons_succ, aAt_0, aAt_1, aAt_2, aEq_int, aNe_int, aEq_t2, aNe_t2, aNe_ni, aNe_in, aNe_nn, aIx_t, aIx_l, aAdd_int, aSub_int, aMul_int, aMod_int, aFdiv_int, aCmp_int, aIs_n, aIsNot_n, aIsNot_b, tr_bl, tr_lst, isi_ii, isi_ib, isi_tt, aInt_int, aAbs_int, aLen_tup, aLen_lst, isN, sizeLine_eq, Nat.reduceLeDiff, Nat.reduceLT, ↓reduceIte, decide_true, decide_false, eq_self, if_true, Bool.false_eq_true, Bool.not_true, Bool.not_false, Bool.true_and, Bool.and_true, Bool.false_and, Bool.and_false, *])

theorem zipA_map2 {α β : Type} (f : α → AV) (g : β → AV) : ∀ (r : List α) (s : List β), zipA (r.map f) (s.map g) = (r.zip s).map fun z => AV.tup [f z.1, g z.2]
  | [], _ => by
    rw [List.zip_nil_left]
    show zipA [] _ = []
    unfold zipA
    rfl
  | _ :: _, [] => rfl
  | x :: r, y :: s => by
    show AV.tup [f x, g y] :: zipA (r.map f) (s.map g) = _
    rw [zipA_map2 f g r s]
    rfl
theorem zip_len {α β : Type} (r : List α) (s : List β) : (r.zip s).length ≤ r.length := by
  rw [List.length_zip]
  omega
theorem aNe_pz {p : Int} {n : Nat} {x : Int × Int} (h : Num p n x) (k : AHeap) : aNe (pA x) (.tup [.int 0, .int 1]) k = some (.bl (!(x.1 == 0))) := by
  show aNe (.tup [.int x.1, .int x.2]) (.tup [.int 0, .int 1]) k = _
  rw [aNe_t2]
  by_cases e : x.1 = 0
  · have := h.eq0 e
    rw [this]
    rfl
  · have e1 : (x.1 == 0) = false := by simpa using e
    rw [e1]
    rfl
theorem row_plus_ev {p : Int} {n m : Nat} {u v : AV} {r s : List (Int × Int)} (hu : RowV u r) (hv : RowV v s) (hr : RowN p n r) (hs : RowN p m s) (hn : n + m ≤ 3890) (hl : r.length ≤ 1000) (h : AHeap) : F_row_plus [fv p, u, v] h = .ok (.tup (((r.zip s).map fun z => qplus p z.1 z.2).map pA)) h := by
  have ei : iZp (mCons (mVar 1) (mCons (mVar 2) (mNil))) [some (fv p), some u, some v, none, none] h = .ok ((r.zip s).map fun z => AV.tup [pA z.1, pA z.2]) h := by
    rw [iZp_ev rfl hu hv, zipA_map2]
  have lc := lc_map (own := [3, 4]) (g := (gTp 2 (gsCons (gNm 3) (gsCons (gNm 4) gsNil)))) (e := e0_row_plus) (k := fun z => pA (qplus p z.1 z.2)) ei (fun z hz acc => ⟨_, rfl, by
    obtain ⟨h1, h2⟩ := List.of_mem_zip hz
    have c1 : ∀ h, isC "Field" "plus" h (fv p) = true := fun h => isC_fv (by decide +kernel) h
    have q := fun h => fplus_ev (hr _ h1) (hs _ h2) (by omega) h
    unfold e0_row_plus
    simp only [mMeth, mCall, mCons, mNil, mVar, mC, List.getElem?_cons_zero, List.getElem?_cons_succ, List.append_nil, List.length_cons, List.length_nil, Nat.reduceAdd, ↓reduceIte, wipeA, List.set_cons_succ, List.set_cons_zero, c1, q]⟩) (fun _ _ => rfl) (small_len (Nat.le_trans (zip_len r s) hl))
  have e : ((r.zip s).map fun z => pA (qplus p z.1 z.2)) = ((r.zip s).map fun z => qplus p z.1 z.2).map pA := by
    rw [List.map_map] <;> rfl
  rw [e] at lc
  exact rt_tup lc
theorem row_minus_ev {p : Int} {n m : Nat} {u v : AV} {r s : List (Int × Int)} (hu : RowV u r) (hv : RowV v s) (hr : RowN p n r) (hs : RowN p m s) (hn : n + m ≤ 3890) (hl : r.length ≤ 1000) (h : AHeap) : F_row_minus [fv p, u, v] h = .ok (.tup (((r.zip s).map fun z => qminus p z.1 z.2).map pA)) h := by
  have ei : iZp (mCons (mVar 1) (mCons (mVar 2) (mNil))) [some (fv p), some u, some v, none, none] h = .ok ((r.zip s).map fun z => AV.tup [pA z.1, pA z.2]) h := by
    rw [iZp_ev rfl hu hv, zipA_map2]
  have lc := lc_map (own := [3, 4]) (g := (gTp 2 (gsCons (gNm 3) (gsCons (gNm 4) gsNil)))) (e := e0_row_minus) (k := fun z => pA (qminus p z.1 z.2)) ei (fun z hz acc => ⟨_, rfl, by
    obtain ⟨h1, h2⟩ := List.of_mem_zip hz
    have c1 : ∀ h, isC "Field" "minus" h (fv p) = true := fun h => isC_fv (by decide +kernel) h
    have q := fun h => fminus_ev (hr _ h1) (hs _ h2) (by omega) h
    unfold e0_row_minus
    simp only [mMeth, mCall, mCons, mNil, mVar, mC, List.getElem?_cons_zero, List.getElem?_cons_succ, List.append_nil, List.length_cons, List.length_nil, Nat.reduceAdd, ↓reduceIte, wipeA, List.set_cons_succ, List.set_cons_zero, c1, q]⟩) (fun _ _ => rfl) (small_len (Nat.le_trans (zip_len r s) hl))
  have e : ((r.zip s).map fun z => pA (qminus p z.1 z.2)) = ((r.zip s).map fun z => qminus p z.1 z.2).map pA := by
    rw [List.map_map] <;> rfl
  rw [e] at lc
  exact rt_tup lc
theorem row_times_ev {p : Int} {n m : Nat} {v : AV} {x : Int × Int} {s : List (Int × Int)} (hv : RowV v s) (hx : Num p n x) (hs : RowN p m s) (hn : n + m ≤ 3890) (hl : s.length ≤ 1000) (h : AHeap) : F_row_times [fv p, pA x, v] h = .ok (.tup ((s.map fun y => qtimes p x y).map pA)) h := by
  have ei : iSq (mVar 2) [some (fv p), some (pA x), some v, none] h = .ok (s.map pA) h := iSq_ev rfl hv
  have lc := lc_map (own := [3]) (g := gNm 3) (e := e0_row_times) (k := fun y => pA (qtimes p x y)) ei (fun y hy acc => ⟨_, rfl, by
    have c1 : ∀ h, isC "Field" "times" h (fv p) = true := fun h => isC_fv (by decide +kernel) h
    have q := fun h => ftimes_ev hx (hs _ hy) (by omega) h
    unfold e0_row_times
    simp only [mMeth, mCall, mCons, mNil, mVar, mC, List.getElem?_cons_zero, List.getElem?_cons_succ, List.append_nil, List.length_cons, List.length_nil, Nat.reduceAdd, ↓reduceIte, wipeA, List.set_cons_succ, List.set_cons_zero, c1, q]⟩) (fun _ _ => rfl) (small_len hl)
  have e : (s.map fun y => pA (qtimes p x y)) = (s.map fun y => qtimes p x y).map pA := by
    rw [List.map_map] <;> rfl
  rw [e] at lc
  exact rt_tup lc
/-! ### sums of products -/
def stp (p : Int) (t : Int × Int) (z : (Int × Int) × (Int × Int)) : Int × Int := if z.1.1 ≠ 0 ∧ z.2.1 ≠ 0 then qplus p t (qtimes p z.1 z.2) else t
def qdot (p : Int) (r s : List (Int × Int)) : Int × Int := (r.zip s).foldl (stp p) (0, 1)
theorem stp_num {p : Int} {n m k : Nat} {t : Int × Int} {z : (Int × Int) × (Int × Int)} (ht : Num p k t) (h1 : Num p n z.1) (h2 : Num p m z.2) : Num p (k + (n + m + 1)) (stp p t z) := by
  unfold stp
  split
  · exact (ht.plus (h1.times h2)).mono (by omega)
  · exact ht.mono (by omega)
theorem fold_num {p : Int} {n m : Nat} : ∀ (l : List ((Int × Int) × (Int × Int))) (k : Nat) (t : Int × Int), Num p k t → (∀ z ∈ l, Num p n z.1 ∧ Num p m z.2) → Num p (k + l.length * (n + m + 1)) (l.foldl (stp p) t)
  | [], k, t, ht, _ => by
    show Num p (k + 0 * _) t
    rw [Nat.zero_mul]
    exact ht
  | z :: l, k, t, ht, hl => by
    have q := fold_num l _ _ (stp_num ht (hl z List.mem_cons_self).1 (hl z List.mem_cons_self).2) fun y hy => hl y (List.mem_cons_of_mem _ hy)
    refine q.mono ?_
    rw [List.length_cons, Nat.succ_mul]
    omega
theorem zip_num {p : Int} {n m : Nat} {r s : List (Int × Int)} (hr : RowN p n r) (hs : RowN p m s) : ∀ z ∈ r.zip s, Num p n z.1 ∧ Num p m z.2 := fun z hz => ⟨hr _ (List.of_mem_zip hz).1, hs _ (List.of_mem_zip hz).2⟩
theorem qdot_num {p : Int} {n m : Nat} {r s : List (Int × Int)} (hp : Fld p) (hr : RowN p n r) (hs : RowN p m s) : Num p (1 + r.length * (n + m + 1)) (qdot p r s) := (fold_num _ 1 _ (Num.zero hp) (zip_num hr hs)).mono (by
  have := Nat.mul_le_mul_right (n + m + 1) (zip_len r s)
  omega)
theorem dot_ev {p : Int} {n m : Nat} {u v : AV} {r s : List (Int × Int)} (hp : Fld p) (hu : RowV u r) (hv : RowV v s) (hr : RowN p n r) (hs : RowN p m s) (hn : r.length * (n + m + 1) + (n + m) ≤ 3000) (h : AHeap) : F_dot [fv p, u, v] h = .ok (pA (qdot p r s)) h := by
  have ei : iZp (mCons (mVar 1) (mCons (mVar 2) (mNil))) [some (fv p), some u, some v, some (pA (0, 1)), none, none] h = .ok ((r.zip s).map fun z => AV.tup [pA z.1, pA z.2]) h := by
    rw [iZp_ev rfl hu hv, zipA_map2]
  obtain ⟨ρ', h', e, ⟨z4, z5, t, k, rest, hρ, hh, er, hz, ht, hk, hf⟩⟩ := mFor_run (g := (gTp 2 (gsCons (gNm 4) (gsCons (gNm 5) gsNil)))) (b := b0_dot)
    (I := fun l ρ kk => ∃ (z4 z5 : Option AV) (t : Int × Int) (k : Nat) (rest : List ((Int × Int) × (Int × Int))), ρ = [some (fv p), some u, some v, some (pA t), z4, z5] ∧ kk = h ∧ l = (rest.map fun z => AV.tup [pA z.1, pA z.2]) ∧ (∀ z ∈ rest, Num p n z.1 ∧ Num p m z.2) ∧ Num p k t ∧ k + rest.length * (n + m + 1) ≤ 3001 ∧ rest.foldl (stp p) t = qdot p r s) ei
    ⟨none, none, (0, 1), 1, r.zip s, rfl, rfl, rfl, zip_num hr hs, Num.zero hp, by
      have := Nat.mul_le_mul_right (n + m + 1) (zip_len r s)
      omega, rfl⟩
    (by
      rintro d l ρ kk ⟨z4, z5, t, k, rest, rfl, rfl, er, hz, ht, hk, hf⟩
      cases rest with
      | nil => cases er
      | cons z rest =>
        rw [List.map_cons] at er
        cases er
        obtain ⟨n1, n2⟩ := hz z List.mem_cons_self
        rw [List.length_cons, Nat.succ_mul] at hk
        refine ⟨[some (fv p), some u, some v, some (pA (stp p t z)), some (pA z.1), some (pA z.2)], kk, ⟨[some (fv p), some u, some v, some (pA t), some (pA z.1), some (pA z.2)], kk, rfl, .inl ?_⟩, some (pA z.1), some (pA z.2), stp p t z, k + (n + m + 1), rest, rfl, rfl, rfl, fun y hy => hz y (List.mem_cons_of_mem _ hy), stp_num ht n1 n2, by omega, hf⟩
        have w1 := aNe_pz n1
        have w2 := aNe_pz n2
        have c1 : ∀ h, isC "Field" "plus" h (fv p) = true := fun h => isC_fv (by decide +kernel) h
        have c2 : ∀ h, isC "Field" "times" h (fv p) = true := fun h => isC_fv (by decide +kernel) h
        have q1 := fun h => ftimes_ev n1 n2 (by omega) h
        have q2 := fun h => fplus_ev ht (n1.times n2) (by omega) h
        unfold b0_dot stp
        by_cases d1 : z.1.1 = 0
        · have d2 : (z.1.1 == 0) = true := by simpa using d1
          rw [if_neg (fun w => w.1 d1)]
          simp only [mIfS, mAnd, mTst, mOp, mNext, mVar, mC, List.getElem?_cons_zero, List.getElem?_cons_succ, w1, d2, Bool.not_true, Bool.false_eq_true, ↓reduceIte]
        · have d2 : (z.1.1 == 0) = false := by simpa using d1
          by_cases d3 : z.2.1 = 0
          · have d4 : (z.2.1 == 0) = true := by simpa using d3
            rw [if_neg (fun w => w.2 d3)]
            simp only [mIfS, mAnd, mTst, mOp, mNext, mVar, mC, List.getElem?_cons_zero, List.getElem?_cons_succ, w1, w2, d2, d4, Bool.not_true, Bool.not_false, Bool.false_eq_true, ↓reduceIte]
          · have d4 : (z.2.1 == 0) = false := by simpa using d3
            rw [if_pos ⟨d1, d3⟩]
            simp only [mIfS, mAnd, mTst, mOp, mAsg, gNm, w1, w2, d2, d4, Bool.not_false, c1, c2, q1, q2, List.set_cons_zero, List.set_cons_succ, mMeth, mCall, mCons, mNil, mVar, mC, List.getElem?_cons_zero, List.getElem?_cons_succ, List.append_nil, List.length_cons, List.length_nil, Nat.reduceAdd, ↓reduceIte])
  cases rest with
  | cons z rest => cases er
  | nil =>
    have hf' : t = qdot p r s := hf
    subst hρ hh hf'
    have e' : mFor (iZp (mCons (mVar 1) (mCons (mVar 2) (mNil)))) (gTp 2 (gsCons (gNm 4) (gsCons (gNm 5) gsNil))) b0_dot [some (fv p), some u, some v, some (.tup [.int 0, .int 1]), none, none] h' = _ := e
    unfold F_dot m_dot
    generalize mFor (iZp (mCons (mVar 1) (mCons (mVar 2) (mNil)))) (gTp 2 (gsCons (gNm 4) (gsCons (gNm 5) gsNil))) b0_dot = M at e' ⊢
    simp only [noX, fnOf, mSeq, mAsg, gNm, mRet, mVar, mC, List.map_cons, List.map_nil, List.length_cons, List.length_nil, List.cons_append, List.nil_append, Nat.reduceAdd, Nat.reduceSub, List.replicate_succ, List.replicate_zero, List.getElem?_cons_zero, List.getElem?_cons_succ, List.set_cons_zero, List.set_cons_succ, e']
end W

set_option maxRecDepth 100000
set_option maxHeartbeats 4000000
namespace W
open PySem PySem.Spec L2 Mi
local macro_rules | `(tactic| walk_at "ev") => `(tactic| simp only [noX, fnOf, mSeq, mNext, mAsg, gNm, mIfS, mTst, mTru, mOp, mUn, mVar, mC, mCons, mNil, mTup, mLst, mRet, mCall, mMeth, mCB, mIf, mAnd, mOr, mNot, mAndV, mOrV, mNotV, mNotT, mPar, mDrop, isLc, beq_self_eq_true, mLstC, ixN3_1, ixN3_2, pow18, pow30, pow6, List.set_set, gTp, gsCons, gsNil, mSetAt, mSetIx, mApp, mExt, mFrz, mChain, at_f0, List.map_cons, List.map_nil, List.length_cons, List.length_nil, List.cons_append, List.nil_append, List.append_nil, List.replicate_succ, List.replicate_zero, Nat.reduceAdd, Nat.reduceSub, List.getElem?_cons_zero, List.getElem?_cons_succ, List.set_cons_zero, List.set_cons_succ, aAt_0, aAt_1, aAt_2, aEq_int, aNe_int, aEq_t2, aNe_t2, aNe_ni, aNe_in, aNe_nn, aIx_t, aIx_l, aAdd_int, aSub_int, aMul_int, aMod_int, aFdiv_int, aCmp_int, aIs_n, aIsNot_n, aIsNot_b, tr_bl, tr_lst, isi_ii, isi_ib, isi_tt, aInt_int, aAbs_int, aLen_tup, aLen_lst, isN, sizeLine_eq, Nat.reduceLeDiff, Nat.reduceLT, ↓reduceIte, decide_true, decide_false, eq_self, if_true, Bool.false_eq_true, Bool.not_true, Bool.not_false, Bool.true_and, Bool.and_true, Bool.false_and, Bool.and_false, *])

theorem frz_get {v : AV} {l : List AV} (e : frzL v = some l) (h : AHeap) : getL h v = some l := by
  cases v with
  | tup m => exact e
  | lst m => exact e
  | lstR m => exact e
  | _ => cases e
theorem aLen_frz {v : AV} {l : List AV} (e : frzL v = some l) (h : AHeap) : aLen [v] h = some (.int (l.length : Int)) := by
  show (match getL h v with
    | some l => some (AV.int l.length)
    | none => none) = _
  rw [frz_get e h]
theorem aIx_frz {v x : AV} {l : List AV} {k : Nat} (e : frzL v = some l) (ek : l[k]? = some x) (h : AHeap) : aIx v (.int (k : Int)) h = some x := by
  unfold aIx
  rw [frz_get e h]
  exact aAt_nat ek
theorem aIx_p0 (x : Int × Int) (h : AHeap) : aIx (pA x) (.int 0) h = some (.int x.1) := aAt_0
theorem row_len {v : AV} {r : List (Int × Int)} (hv : RowV v r) (h : AHeap) : aLen [v] h = some (.int (r.length : Int)) := by
  rw [aLen_frz hv h, List.length_map]
theorem row_at {v : AV} {r : List (Int × Int)} (hv : RowV v r) {k : Nat} {x : Int × Int} (ek : r[k]? = some x) (h : AHeap) : aIx v (.int (k : Int)) h = some (pA x) := aIx_frz hv (by rw [List.getElem?_map, ek] <;> rfl) h
theorem law_dot_ev {p : Int} {n m : Nat} {u v : AV} {r s : List (Int × Int)} (hp : Fld p) (hu : RowV u r) (hv : RowV v s) (hr : RowN p n r) (hs : RowN p m s) (hl : r.length ≤ s.length) (hn : r.length * (n + m + 1) + (n + m) ≤ 3000) (h : AHeap) : F__law_dot [.int p, u, v] h = .ok (pA (qdot p r s)) h := by
  have rl : r.length ≤ 3000 := by
    have := Nat.le_mul_of_pos_right r.length (show 0 < n + m + 1 by omega)
    omega
  have zl : (r.zip s).length = r.length := by
    rw [List.length_zip]
    omega
  have ei : iR1 (mCons (mCB aLen (mCons (mVar 1) (mNil))) (mNil)) [some (.int p), some u, some v, some (pA (0, 1)), none] h = .ok (rng 0 r.length) h := by
    have q := iR1_ev (a := mCons (mCB aLen (mCons (mVar 1) (mNil))) (mNil)) (ρ := [some (.int p), some u, some v, some (pA (0, 1)), none]) (h := h) (h1 := h) (j := (r.length : Int)) (by
      simp only [mCons, mCB, mNil, mVar, List.getElem?_cons_zero, List.getElem?_cons_succ, row_len hu]) (by omega) (by omega)
    rw [Int.toNat_natCast] at q
    exact q
  obtain ⟨ρ', h', e, ⟨z4, t, k, j, i, hρ, hh, er, hj, ht, hk, hf⟩⟩ := mFor_run (g := gNm 4) (b := b0__law_dot)
    (I := fun l ρ kk => ∃ (z4 : Option AV) (t : Int × Int) (k j i : Nat), ρ = [some (.int p), some u, some v, some (pA t), z4] ∧ kk = h ∧ l = rng (j : Int) i ∧ j + i = r.length ∧ Num p k t ∧ k + i * (n + m + 1) ≤ 3001 ∧ t = ((r.zip s).take j).foldl (stp p) (0, 1)) ei
    ⟨none, (0, 1), 1, 0, r.length, rfl, rfl, rfl, by omega, Num.zero hp, by omega, rfl⟩
    (by
      rintro d l ρ kk ⟨z4, t, k, j, i, rfl, rfl, er, hj, ht, hk, hf⟩
      obtain ⟨rfl, i', rfl, rfl⟩ := rng_cons er
      have jr : j < r.length := by omega
      have js : j < s.length := by omega
      have g1 : r[j]? = some r[j] := List.getElem?_eq_getElem jr
      have g2 : s[j]? = some s[j] := List.getElem?_eq_getElem js
      have n1 : Num p n r[j] := hr _ (List.getElem_mem jr)
      have n2 : Num p m s[j] := hs _ (List.getElem_mem js)
      rw [Nat.succ_mul] at hk
      have tk : ((r.zip s).take (j + 1)).foldl (stp p) (0, 1) = stp p t (r[j], s[j]) := by
        rw [List.take_succ_eq_append_getElem (by omega), List.foldl_append, ← hf, List.getElem_zip]
        rfl
      refine ⟨[some (.int p), some u, some v, some (pA (stp p t (r[j], s[j]))), some (.int (j : Int))], kk, ⟨[some (.int p), some u, some v, some (pA t), some (.int (j : Int))], kk, rfl, .inl ?_⟩, some (.int (j : Int)), stp p t (r[j], s[j]), k + (n + m + 1), j + 1, i', rfl, rfl, rfl, by omega, stp_num ht n1 n2, by omega, tk.symm⟩
      have w1 := row_at hu g1
      have w2 := row_at hv g2
      have w3 := aIx_p0
      have q1 := fun h => ltimes_ev n1 n2 (by omega) h
      have q2 := fun h => lplus_ev ht (n1.times n2) (by omega) h
      unfold b0__law_dot stp
      dsimp only
      by_cases d1 : r[j].1 = 0
      · have d2 : (r[j].1 == 0) = true := by simpa using d1
        rw [if_neg (fun w => w.1 d1)]
        simp only [mIfS, mAnd, mTst, mOp, mNext, mVar, mC, List.getElem?_cons_zero, List.getElem?_cons_succ, w1, w3, aNe_int, d2, Bool.not_true, Bool.false_eq_true, ↓reduceIte]
      · have d2 : (r[j].1 == 0) = false := by simpa using d1
        by_cases d3 : s[j].1 = 0
        · have d4 : (s[j].1 == 0) = true := by simpa using d3
          rw [if_neg (fun w => w.2 d3)]
          simp only [mIfS, mAnd, mTst, mOp, mNext, mVar, mC, List.getElem?_cons_zero, List.getElem?_cons_succ, w1, w2, w3, aNe_int, d2, d4, Bool.not_true, Bool.not_false, Bool.false_eq_true, ↓reduceIte]
        · have d4 : (s[j].1 == 0) = false := by simpa using d3
          rw [if_pos ⟨d1, d3⟩]
          simp only [mIfS, mAnd, mTst, mOp, mAsg, gNm, w1, w2, w3, aNe_int, d2, d4, Bool.not_false, q1, q2, List.set_cons_zero, List.set_cons_succ, mMeth, mCall, mCons, mNil, mVar, mC, List.getElem?_cons_zero, List.getElem?_cons_succ, List.append_nil, List.length_cons, List.length_nil, Nat.reduceAdd, ↓reduceIte])
  have i0 : i = 0 := rng_nil er.symm
  subst i0
  have hf' : t = qdot p r s := by
    rw [hf, List.take_of_length_le (by omega)]
    rfl
  subst hρ hh hf'
  have e' : mFor (iR1 (mCons (mCB aLen (mCons (mVar 1) (mNil))) (mNil))) (gNm 4) b0__law_dot [some (.int p), some u, some v, some (.tup [.int 0, .int 1]), none] h' = _ := e
  unfold F__law_dot m__law_dot
  generalize mFor (iR1 (mCons (mCB aLen (mCons (mVar 1) (mNil))) (mNil))) (gNm 4) b0__law_dot = M at e' ⊢
  simp only [noX, fnOf, mSeq, mAsg, gNm, mRet, mTup, mCons, mNil, mVar, mC, List.map_cons, List.map_nil, List.length_cons, List.length_nil, List.cons_append, List.nil_append, Nat.reduceAdd, Nat.reduceSub, List.replicate_succ, List.replicate_zero, List.getElem?_cons_zero, List.getElem?_cons_succ, List.set_cons_zero, List.set_cons_succ, sizeLine_eq, Nat.reduceLeDiff, ↓reduceIte, e']
/-! ### tables: each row as it stands, with its numbers -/
abbrev Tab := List (AV × List (Int × Int))
def TabV (v : AV) (T : Tab) : Prop := frzL v = some (T.map (·.1)) ∧ ∀ t ∈ T, RowV t.1 t.2
def TabN (p : Int) (n w : Nat) (T : Tab) : Prop := ∀ t ∈ T, RowN p n t.2 ∧ t.2.length = w
theorem table_row_ev {p : Int} {n m w : Nat} {u v : AV} {T : Tab} {s : List (Int × Int)} (hp : Fld p) (hT : TabV u T) (hv : RowV v s) (hN : TabN p n w T) (hs : RowN p m s) (hn : w * (n + m + 1) + (n + m) ≤ 3000) (hl : T.length ≤ 1000) (h : AHeap) : F_table_row [fv p, u, v] h = .ok (.tup ((T.map fun t => qdot p t.2 s).map pA)) h := by
  have ei : iSq (mVar 1) [some (fv p), some u, some v, none] h = .ok (T.map (·.1)) h := iSq_ev rfl hT.1
  have lc := lc_map (own := [3]) (g := gNm 3) (e := e0_table_row) (k := fun t => pA (qdot p t.2 s)) ei (fun t ht acc => ⟨_, rfl, by
    obtain ⟨r1, r2⟩ := hN t ht
    have q := fun h => dot_ev hp (hT.2 t ht) hv r1 hs (by rw [r2]; exact hn) h
    unfold e0_table_row
    simp only [mMeth, mCall, mCons, mNil, mVar, mC, List.getElem?_cons_zero, List.getElem?_cons_succ, List.append_nil, List.length_cons, List.length_nil, Nat.reduceAdd, ↓reduceIte, wipeA, List.set_cons_succ, List.set_cons_zero, q]⟩) (fun _ _ => rfl) (small_len hl)
  have e : (T.map fun t => pA (qdot p t.2 s)) = (T.map fun t => qdot p t.2 s).map pA := by
    rw [List.map_map] <;> rfl
  rw [e] at lc
  exact rt_tup lc
def qrowF (p : Int) (t : List (Int × Int)) (z : (Int × Int) × (AV × List (Int × Int))) : List (Int × Int) := if z.1.1 ≠ 0 then (t.zip (z.2.2.map fun y => qtimes p z.1 y)).map (fun y => qplus p y.1 y.2) else t
def qrowtab (p : Int) (w : Nat) (r : List (Int × Int)) (T : Tab) : List (Int × Int) := (r.zip T).foldl (qrowF p) (zrow w)
theorem qrowF_num {p : Int} {n m k : Nat} {t : List (Int × Int)} {z : (Int × Int) × (AV × List (Int × Int))} (ht : RowN p k t) (h1 : Num p n z.1) (h2 : RowN p m z.2.2) : RowN p (k + (n + m + 1)) (qrowF p t z) := by
  unfold qrowF
  split
  · intro x hx
    obtain ⟨y, hy, rfl⟩ := List.mem_map.mp hx
    obtain ⟨y1, y2⟩ := List.of_mem_zip hy
    obtain ⟨a, ha, e⟩ := List.mem_map.mp y2
    rw [← e]
    exact ((ht _ y1).plus (h1.times (h2 _ ha))).mono (by omega)
  · exact fun x hx => (ht x hx).mono (by omega)
theorem qrowF_len {p : Int} {w : Nat} {t : List (Int × Int)} {z : (Int × Int) × (AV × List (Int × Int))} (ht : t.length = w) (h2 : z.2.2.length = w) : (qrowF p t z).length = w := by
  unfold qrowF
  split
  · rw [List.length_map, List.length_zip, List.length_map, ht, h2, Nat.min_self]
  · exact ht
theorem zrow_num {p : Int} (hp : Fld p) (w : Nat) : RowN p 1 (zrow w) := fun x hx => by
  unfold zrow at hx
  obtain ⟨k, _, rfl⟩ := List.mem_map.mp hx
  exact Num.zero hp
theorem zrow_len (w : Nat) : (zrow w).length = w := by
  unfold zrow
  rw [List.length_map, List.length_range]
theorem clsd_tp (r : List (Int × Int)) : clsd (.tup (r.map pA)) = true := clsdL_pA r
/-- how the width is told -/
def Wide (wv : AV) (w : Nat) (T : Tab) : Prop := wv = .int (w : Int) ∨ (wv = .non ∧ ∃ t l, T = t :: l ∧ t.2.length = w)
theorem row_table_ev {p : Int} {n m w : Nat} {u v wv : AV} {r : List (Int × Int)} {T : Tab} (hp : Fld p) (hu : RowV u r) (hT : TabV v T) (hw : Wide wv w T) (hr : RowN p n r) (hN : TabN p m w T) (hl : r.length * (n + m + 1) + (n + m) ≤ 3000) (hw2 : w ≤ 1000) (h : AHeap) : F_row_table [fv p, u, v, wv] h = .ok (.tup ((qrowtab p w r T).map pA)) h := by
  have zr := fun h => zero_row_ev w hw2 h
  have hw' : wv = .int (w : Int) ∨ (wv = .non ∧ ∃ t0 : AV, (∀ h, aIx v (.int 0) h = some t0) ∧ ∀ h, aLen [t0] h = some (.int (w : Int))) := by
    rcases hw with e | ⟨e, t0, l0, eT, tw⟩
    · exact .inl e
    · refine .inr ⟨e, t0.1, fun h => aIx_frz (k := 0) hT.1 (by rw [eT] <;> rfl) h, fun h => ?_⟩
      rw [row_len (hT.2 t0 (by rw [eT]; exact List.mem_cons_self)), tw]
  obtain ⟨W, hW⟩ : ∃ W : Int, (w : Int) = W := ⟨_, rfl⟩
  rw [hW] at hw'
  simp only [hW] at zr
  have ei : iZp (mCons (mVar 1) (mCons (mVar 2) (mNil))) [some (fv p), some u, some v, some wv, some (.int W), some (.tup ((zrow w).map pA)), none, none] h = .ok ((r.zip T).map fun z => AV.tup [pA z.1, z.2.1]) h := by
    rw [iZp_ev rfl hu hT.1, zipA_map2]
  have zl := Nat.mul_le_mul_right (n + m + 1) (zip_len r T)
  obtain ⟨ρ', h', e, ⟨z6, z7, t, k, rest, hρ, hh, er, hz, ht, tl, hk, hf⟩⟩ := mFor_run (g := (gTp 2 (gsCons (gNm 6) (gsCons (gNm 7) gsNil)))) (b := b0_row_table)
    (I := fun l ρ kk => ∃ (z6 z7 : Option AV) (t : List (Int × Int)) (k : Nat) (rest : List ((Int × Int) × (AV × List (Int × Int)))), ρ = [some (fv p), some u, some v, some wv, some (.int W), some (.tup (t.map pA)), z6, z7] ∧ kk = h ∧ l = (rest.map fun z => AV.tup [pA z.1, z.2.1]) ∧ (∀ z ∈ rest, Num p n z.1 ∧ z.2 ∈ T) ∧ RowN p k t ∧ t.length = w ∧ k + rest.length * (n + m + 1) ≤ 3001 ∧ rest.foldl (qrowF p) t = qrowtab p w r T) ei
    ⟨none, none, zrow w, 1, r.zip T, rfl, rfl, rfl, fun z hz => ⟨hr _ (List.of_mem_zip hz).1, (List.of_mem_zip hz).2⟩, zrow_num hp w, zrow_len w, by omega, rfl⟩
    (by
      rintro d l ρ kk ⟨z6, z7, t, k, rest, rfl, rfl, er, hz, ht, tl, hk, hf⟩
      cases rest with
      | nil => cases er
      | cons z rest =>
        rw [List.map_cons] at er
        cases er
        obtain ⟨n1, mem⟩ := hz z List.mem_cons_self
        obtain ⟨n2, zw⟩ := hN _ mem
        rw [List.length_cons, Nat.succ_mul] at hk
        refine ⟨[some (fv p), some u, some v, some wv, some (.int W), some (.tup ((qrowF p t z).map pA)), some (pA z.1), some z.2.1], kk, ⟨[some (fv p), some u, some v, some wv, some (.int W), some (.tup (t.map pA)), some (pA z.1), some z.2.1], kk, rfl, .inl ?_⟩, some (pA z.1), some z.2.1, qrowF p t z, k + (n + m + 1), rest, rfl, rfl, rfl, fun y hy => hz y (List.mem_cons_of_mem _ hy), qrowF_num ht n1 n2, qrowF_len tl zw, by omega, hf⟩
        have w1 := aNe_pz n1
        have q1 := fun h => row_times_ev (hT.2 _ mem) n1 n2 (by omega) (by omega) h
        have rn : RowN p (n + m) (z.2.2.map fun y => qtimes p z.1 y) := fun x hx => by
          obtain ⟨y, hy, rfl⟩ := List.mem_map.mp hx
          exact n1.times (n2 _ hy)
        have q2 := fun h => row_plus_ev (u := .tup (t.map pA)) (v := .tup ((z.2.2.map fun y => qtimes p z.1 y).map pA)) rfl rfl ht rn (by omega) (by omega) h
        unfold b0_row_table qrowF
        by_cases d1 : z.1.1 = 0
        · have d2 : (z.1.1 == 0) = true := by simpa using d1
          rw [if_neg (fun w => w d1)]
          simp only [mIfS, mTst, mOp, mNext, mVar, mC, List.getElem?_cons_zero, List.getElem?_cons_succ, w1, d2, Bool.not_true, Bool.false_eq_true, ↓reduceIte]
        · have d2 : (z.1.1 == 0) = false := by simpa using d1
          rw [if_pos d1]
          simp only [mIfS, mTst, mOp, mAsg, gNm, w1, d2, Bool.not_false, q1, q2, List.set_cons_zero, List.set_cons_succ, mMeth, mCall, mCons, mNil, mVar, mC, List.getElem?_cons_zero, List.getElem?_cons_succ, List.append_nil, List.length_cons, List.length_nil, Nat.reduceAdd, ↓reduceIte])
  cases rest with
  | cons z rest => cases er
  | nil =>
    have hf' : t = qrowtab p w r T := hf
    subst hρ hh hf'
    have wd : (mAsg (mIf (mTst (mOp aIsNot (mVar 3) (mC .non))) (mVar 3) (mCB aLen (mCons (mOp aIx (mVar 2) (mC (.int 0))) (mNil)))) (gNm 4)) [some (fv p), some u, some v, some wv, none, none, none, none] h' = .ok .nx [some (fv p), some u, some v, some wv, some (.int W), none, none, none] h' := by
      rcases hw' with rfl | ⟨rfl, t0, a0, a1⟩
      · simp only [mAsg, gNm, mIf, mTst, mOp, mVar, mC, aIsNot_n, isN, Bool.not_false, ↓reduceIte, List.getElem?_cons_zero, List.getElem?_cons_succ, List.set_cons_zero, List.set_cons_succ]
      · simp only [mAsg, gNm, mIf, mTst, mOp, mVar, mC, mCB, mCons, mNil, aIsNot_n, isN, Bool.not_true, Bool.false_eq_true, ↓reduceIte, a0, a1, List.getElem?_cons_zero, List.getElem?_cons_succ, List.set_cons_zero, List.set_cons_succ]
    have wd2 : (mAsg (mCall 1 F_zero_row [] (mCons (mVar 4) (mNil))) (gNm 5)) [some (fv p), some u, some v, some wv, some (.int W), none, none, none] h' = .ok .nx [some (fv p), some u, some v, some wv, some (.int W), some (.tup ((zrow w).map pA)), none, none] h' := by
      generalize F_zero_row = FZ at zr ⊢
      simp only [mAsg, gNm, zr, List.set_cons_zero, List.set_cons_succ, mMeth, mCall, mCons, mNil, mVar, mC, List.getElem?_cons_zero, List.getElem?_cons_succ, List.append_nil, List.length_cons, List.length_nil, Nat.reduceAdd, ↓reduceIte]
    have run : m_row_table [some (fv p), some u, some v, some wv, none, none, none, none] h' = .ok (.rt (.tup ((qrowtab p w r T).map pA))) [some (fv p), some u, some v, some wv, some (.int W), some (.tup ((qrowtab p w r T).map pA)), z6, z7] h' := by
      unfold m_row_table
      exact (seq_nx wd).trans ((seq_nx wd2).trans ((seq_nx e).trans rfl))
    show noX (fnOf m_row_table 8) _ _ = _
    generalize m_row_table = M at run
    simp only [noX, fnOf, List.map_cons, List.map_nil, List.length_cons, List.length_nil, List.cons_append, List.nil_append, Nat.reduceAdd, Nat.reduceSub, List.replicate_succ, List.replicate_zero, run]
theorem table_table_ev {p : Int} {n m w w2 : Nat} {u v : AV} {S T : Tab} (hp : Fld p) (hS : TabV u S) (hT : TabV v T) (hw : Wide .non w T) (hr : TabN p n w2 S) (hN : TabN p m w T) (hl : w2 * (n + m + 1) + (n + m) ≤ 3000) (hw2 : w ≤ 1000) (hl2 : S.length ≤ 1000) (h : AHeap) : F_table_table [fv p, u, v] h = .ok (.tup (S.map fun t => .tup ((qrowtab p w t.2 T).map pA))) h := by
  have ei : iSq (mVar 1) [some (fv p), some u, some v, none] h = .ok (S.map (·.1)) h := iSq_ev rfl hS.1
  have lc := lc_map (own := [3]) (g := gNm 3) (e := e0_table_table) (k := fun t => AV.tup ((qrowtab p w t.2 T).map pA)) ei (fun t ht acc => ⟨_, rfl, by
    obtain ⟨r1, r2⟩ := hr t ht
    have q := fun h => row_table_ev hp (hS.2 t ht) hT hw r1 hN (by rw [r2]; exact hl) hw2 h
    unfold e0_table_table
    generalize F_row_table = FR at q ⊢
    simp only [mMeth, mCall, mCons, mNil, mVar, mC, List.getElem?_cons_zero, List.getElem?_cons_succ, List.append_nil, List.length_cons, List.length_nil, Nat.reduceAdd, ↓reduceIte, wipeA, List.set_cons_succ, List.set_cons_zero, List.cons_append, List.nil_append, q]⟩) (fun _ _ => clsd_tp _) (small_len hl2)
  exact rt_tup lc
theorem table_plus_ev {p : Int} {n m w : Nat} {u v : AV} {S T : Tab} (hS : TabV u S) (hT : TabV v T) (hr : TabN p n w S) (hN : TabN p m w T) (hl : n + m ≤ 3890) (hw2 : w ≤ 1000) (hl2 : S.length ≤ 1000) (h : AHeap) : F_table_plus [fv p, u, v] h = .ok (.tup ((S.zip T).map fun z => .tup (((z.1.2.zip z.2.2).map fun y => qplus p y.1 y.2).map pA))) h := by
  have ei : iZp (mCons (mVar 1) (mCons (mVar 2) (mNil))) [some (fv p), some u, some v, none, none] h = .ok ((S.zip T).map fun z => AV.tup [z.1.1, z.2.1]) h := by
    rw [iZp_ev rfl hS.1 hT.1, zipA_map2]
  have lc := lc_map (own := [3, 4]) (g := (gTp 2 (gsCons (gNm 3) (gsCons (gNm 4) gsNil)))) (e := e0_table_plus) (k := fun z => AV.tup (((z.1.2.zip z.2.2).map fun y => qplus p y.1 y.2).map pA)) ei (fun z hz acc => ⟨_, rfl, by
    obtain ⟨h1, h2⟩ := List.of_mem_zip hz
    obtain ⟨r1, r2⟩ := hr _ h1
    obtain ⟨r3, r4⟩ := hN _ h2
    have q := fun h => row_plus_ev (hS.2 _ h1) (hT.2 _ h2) r1 r3 hl (by omega) h
    unfold e0_table_plus
    simp only [mMeth, mCall, mCons, mNil, mVar, mC, List.getElem?_cons_zero, List.getElem?_cons_succ, List.append_nil, List.length_cons, List.length_nil, Nat.reduceAdd, ↓reduceIte, wipeA, List.set_cons_succ, List.set_cons_zero, q]⟩) (fun _ _ => clsd_tp _) (small_len (Nat.le_trans (zip_len S T) hl2))
  exact rt_tup lc
/-- the column k -/
def col (T : Tab) (k : Nat) : List (Int × Int) := T.map fun t => t.2.getD k (0, 1)
theorem getD_at {r : List (Int × Int)} {k : Nat} (hk : k < r.length) : r[k]? = some (r.getD k (0, 1)) := by
  rw [List.getD_eq_getElem?_getD, List.getElem?_eq_getElem hk]
  rfl
theorem turned_ev {v : AV} {w : Nat} {T : Tab} (hT : TabV v T) (hw : ∃ t l, T = t :: l ∧ t.2.length = w) (hN : ∀ t ∈ T, t.2.length = w) (hw2 : w ≤ 1000) (hl : T.length ≤ 1000) (h : AHeap) : F_turned [v] h = .ok (.tup ((List.range w).map fun k => .tup ((col T k).map pA))) h := by
  obtain ⟨t0, l0, e0, tl⟩ := hw
  have a0 : ∀ h, aIx v (.int 0) h = some t0.1 := fun h => aIx_frz (k := 0) hT.1 (by rw [e0] <;> rfl) h
  have a1 := row_len (hT.2 t0 (by rw [e0]; exact List.mem_cons_self))
  rw [tl] at a1
  have ei : iR1 (mCons (mCB aLen (mCons (mOp aIx (mVar 0) (mC (.int 0))) (mNil))) (mNil)) [some v, none, none] h = .ok ((List.range w).map fun (k : Nat) => AV.int (k : Int)) h := by
    have q := iR1_ev (a := mCons (mCB aLen (mCons (mOp aIx (mVar 0) (mC (.int 0))) (mNil))) (mNil)) (ρ := [some v, none, none]) (h := h) (h1 := h) (j := (w : Int)) (by
      simp only [mCons, mCB, mNil, mVar, mOp, mC, List.getElem?_cons_zero, List.getElem?_cons_succ, a0, a1]) (by omega) (by omega)
    rw [Int.toNat_natCast, rng_map] at q
    exact q
  have lc := lc_map (own := [1]) (g := gNm 1) (e := e1_turned) (k := fun (k : Nat) => AV.tup ((col T k).map pA)) ei (fun x hx acc => ⟨_, rfl, by
    have xw := List.mem_range.mp hx
    have ej : iSq (mVar 0) [some v, some (.int (x : Int)), none] (h ++ [some (.lst acc)]) = .ok (T.map (·.1)) (h ++ [some (.lst acc)]) := iSq_ev rfl hT.1
    have lc2 := lc_map (own := [2]) (g := gNm 2) (e := e0_turned) (k := fun t => pA (t.2.getD x (0, 1))) ej (fun t ht acc => ⟨_, rfl, by
      have q := row_at (hT.2 t ht) (getD_at (k := x) (by rw [hN t ht]; exact xw))
      unfold e0_turned
      simp only [mOp, mVar, wipeA, List.set_cons_succ, List.set_cons_zero, List.getElem?_cons_zero, List.getElem?_cons_succ, q]⟩) (fun _ _ => rfl) (small_len hl)
    have ec : (T.map fun t => pA (t.2.getD x (0, 1))) = (col T x).map pA := by
      unfold col
      rw [List.map_map] <;> rfl
    rw [ec] at lc2
    unfold e1_turned
    generalize mLc [2] (iSq (mVar 0)) (gNm 2) mYes e0_turned = M at lc2 ⊢
    simp only [mCB, mCons, mNil, wipeA, List.set_cons_succ, List.set_cons_zero, lc2, aTuple_lst]⟩) (fun _ _ => clsd_tp _) (by rw [List.length_range]; exact small_len hw2)
  exact rt_tup lc
end W

set_option maxRecDepth 100000
set_option maxHeartbeats 4000000
namespace W
open PySem PySem.Spec L2 Mi
local macro_rules | `(tactic| walk_at "ev") => `(tactic| simp only [noX, fnOf, mSeq, mNext, mAsg, gNm, mIfS, mTst, mTru, mOp, mUn, mVar, mC, mCons, mNil, mTup, mLst, mRet, mCall, mMeth, mCB, mIf, mAnd, mOr, mNot, mAndV, mOrV, mNotV, mNotT, mPar, mDrop, isLc, beq_self_eq_true, mLstC, ixN3_1, ixN3_2, pow18, pow30, pow6, List.set_set, gTp, gsCons, gsNil, mSetAt, mSetIx, mApp, mExt, mFrz, mChain, at_f0, List.map_cons, List.map_nil, List.length_cons, List.length_nil, List.cons_append, List.nil_append, List.append_nil, List.replicate_succ, List.replicate_zero, Nat.reduceAdd, Nat.reduceSub, List.getElem?_cons_zero, List.getElem?_cons_succ, List.set_cons_zero, List.set_cons_succ, aAt_0, aAt_1, aAt_2, aEq_int, aNe_int, aEq_t2, aNe_t2, aNe_ni, aNe_in, aNe_nn, aIx_t, aIx_l, aAdd_int, aSub_int, aMul_int, aMod_int, aFdiv_int, aCmp_int, aIs_n, aIsNot_n, aIsNot_b, tr_bl, tr_lst, isi_ii, isi_ib, isi_tt, aInt_int, aAbs_int, aLen_tup, aLen_lst, isN, sizeLine_eq, Nat.reduceLeDiff, Nat.reduceLT, ↓reduceIte, decide_true, decide_false, eq_self, if_true, Bool.false_eq_true, Bool.not_true, Bool.not_false, Bool.true_and, Bool.and_true, Bool.false_and, Bool.and_false, *])

/-- a comprehension whose items change the heap ahead of its own list -/
theorem lc_run {α : Type} {own : List Nat} {it : MI} {g : MG} {e : ME} {ρ : Env2} {h h1 : AHeap} {l : List α} {f : α → AV} (ei : it ρ h = .ok (l.map f) h1) (P : Nat → List AV → AHeap → Prop) (p0 : P 0 [] h1)
    (hx : ∀ x i acc k, l[i]? = some x → acc.length = i → P i acc k → ∃ ρ1 y k', g (f x) (wipeA ρ own) (k ++ [some (.lst acc)]) = .ok .nx ρ1 (k ++ [some (.lst acc)]) ∧ e ρ1 (k ++ [some (.lst acc)]) = .ok y (k' ++ [some (.lst acc)]) ∧ k'.length = k.length ∧ P (i + 1) (acc ++ [y]) k')
    (fin : ∀ ys k, P l.length ys k → clsdL ys = true ∧ DropOk h1 (k ++ [some (.lst ys)])) (hl : l.length ≤ sizeLine) : ∃ ys k, mLc own it g mYes e ρ h = .ok (.lst ys) k ∧ P l.length ys k ∧ k.length = h1.length := by
  have main : ∀ (r : List α) (i : Nat) (acc : List AV) (k : AHeap), r = l.drop i → i + r.length = l.length → acc.length = i → k.length = h1.length → P i acc k →
      ∃ ys k', lcL h1.length g mYes e (r.map f) (wipeA ρ own) (k ++ [some (.lst acc)]) acc = .ok ys (k' ++ [some (.lst ys)]) ∧ k'.length = h1.length ∧ P l.length ys k' := by
    intro r
    induction r with
    | nil =>
      intro i acc k _ hi _ hk hp
      rw [List.length_nil, Nat.add_zero] at hi
      refine ⟨acc, k, ?_, hk, by rw [← hi]; exact hp⟩
      show lcL _ _ _ _ [] _ _ _ = _
      unfold lcL
      rfl
    | cons x r ih =>
      intro i acc k hm hi hc hk hp
      rw [List.length_cons] at hi
      have lx : l[i]? = some x := by
        have q : (l.drop i)[0]? = some x := by
          rw [← hm] <;> rfl
        rw [List.getElem?_drop, Nat.add_zero] at q
        exact q
      have rx : r = l.drop (i + 1) := by
        have q := congrArg List.tail hm
        rw [List.tail_drop] at q
        exact q
      obtain ⟨ρ1, y, k', e1, e2, e3, e4⟩ := hx x i acc k lx hc hp
      have hk' : k'.length = h1.length := e3.trans hk
      have at_ : (k' ++ [some (MO.lst acc)])[h1.length]? = some (some (MO.lst acc)) := by
        rw [List.getElem?_append_right (by omega), hk', Nat.sub_self] <;> rfl
      have st : (k' ++ [some (MO.lst acc)]).set h1.length (some (MO.lst (acc ++ [y]))) = k' ++ [some (MO.lst (acc ++ [y]))] := by
        rw [List.set_append_right _ _ (by omega), hk', Nat.sub_self] <;> rfl
      obtain ⟨ys, k2, f1, f2, f3⟩ := ih (i + 1) (acc ++ [y]) k' rx (by omega) (by rw [List.length_append, hc] <;> rfl) hk' e4
      refine ⟨ys, k2, ?_, f2, f3⟩
      rw [List.map_cons]
      unfold lcL
      rw [e1]
      dsimp only [mYes]
      rw [e2]
      dsimp only
      rw [at_]
      dsimp only
      rw [if_pos (by omega), st]
      exact f1
  obtain ⟨ys, k, f1, f2, f3⟩ := main l 0 [] h1 rfl (by omega) rfl rfl p0
  obtain ⟨c1, c2⟩ := fin ys k f3
  refine ⟨ys, k, ?_, f3, f2⟩
  unfold mLc
  rw [ei]
  dsimp only
  rw [f1]
  dsimp only
  have at_ : (k ++ [some (MO.lst ys)])[h1.length]? = some (some (MO.lst ys)) := by
    rw [List.getElem?_append_right (by omega), f2, Nat.sub_self] <;> rfl
  rw [if_pos ⟨c1, c2, at_⟩, ← f2, List.take_left]
theorem bag_clsd {n : Nat} {mo : MO} (b : Bag n [some mo] 0) : mo.clsd = true := by
  obtain ⟨C, T, r, e, _, h2, _⟩ := b
  cases e
  show (clsdL C && _) = true
  rw [clsdL_of fun v hv => by
    obtain ⟨x, rfl, _⟩ := h2 v hv
    rfl]
  rfl
theorem bag_drop {n : Nat} {A B : Option MO} {r : AHeap} (b : Bag n [B] 0) : DropOk [A] ([B] ++ r) := by
  refine ⟨by simp, fun i mo hi e => ?_⟩
  have i0 : i = 0 := by
    have : i < 1 := hi
    omega
  subst i0
  have eB : B = some mo := Option.some.inj e
  subst eB
  exact .inr (bag_clsd b)
theorem draw0 {n : Nat} {A : Option MO} {r : AHeap} {L : Int} (b : Bag n [A] 0) (hn : n < 1000) (hL : 0 < L) (sL : L < 2 ^ 64) : ∃ v A', F__law_draw [.ref 0, .int L] (A :: r) = .ok (.int v) (A' :: r) ∧ 0 ≤ v ∧ v < L ∧ Bag (n + 1) [A'] 0 := by
  obtain ⟨v, X, q, h0, h1, b1⟩ := draw_ev (L := L) (bag_cons (s := r) b) hn hL (sm_small (by omega) sL)
  rw [List.set_cons_zero] at q b1
  exact ⟨v, X, q, h0, h1, b1⟩
theorem mk_mkq (t b : Int) : mk t b = pA (mkq t b) := by
  unfold mk mkq
  split <;> rfl
theorem number_ev {p : Int} (hp : Fld p) {n : Nat} {A : Option MO} {r : AHeap} (b : Bag n [A] 0) (hn : n < 900) : ∃ x A', F__law_number [.ref 0, .int p] (A :: r) = .ok (pA x) (A' :: r) ∧ Num p 2 x ∧ Bag (n + 2) [A'] 0 := by
  rcases hp with rfl | hp
  · obtain ⟨v, A1, q1, h0, h1, b1⟩ := draw0 (r := r) (L := 7) b (by omega) (by decide) (by decide)
    obtain ⟨u, A2, q2, k0, k1, b2⟩ := draw0 (r := r) (L := 5) b1 (by omega) (by decide) (by decide)
    obtain ⟨bt, hb, hb0, hb1⟩ : ∃ bt : Int, (∀ h, aIx (.lst [.int 1, .int 1, .int 1, .int 2, .int 3]) (.int u) h = some (.int bt)) ∧ 1 ≤ bt ∧ bt ≤ 3 := by
      obtain ⟨k, rfl⟩ := Int.eq_ofNat_of_zero_le k0
      have : k = 0 ∨ k = 1 ∨ k = 2 ∨ k = 3 ∨ k = 4 := by omega
      rcases this with rfl | rfl | rfl | rfl | rfl
      · exact ⟨1, fun _ => rfl, by decide, by decide⟩
      · exact ⟨1, fun _ => rfl, by decide, by decide⟩
      · exact ⟨1, fun _ => rfl, by decide, by decide⟩
      · exact ⟨2, fun _ => rfl, by decide, by decide⟩
      · exact ⟨3, fun _ => rfl, by decide, by decide⟩
    have q3 := fun h => law_make0 (v - 3) bt h (by omega) (sm_small (by omega) (by omega))
    refine ⟨mkq (v - 3) bt, A2, ?_, .inl ⟨rfl, NB.mk (by omega) (by omega) (by omega)⟩, b2⟩
    rw [← mk_mkq]
    have c2 : decide ((0 : Int) < 0) = false := rfl
    simp only [aIx_l] at hb
    have hb' := hb []
    clear hb h0 h1 k0 k1 b b1 b2 hb0 hb1
    unfold F__law_number m__law_number
    walk_at "ev"
  · obtain ⟨v, A1, q1, h0, h1, b1⟩ := draw0 (r := r) (L := p) b (by omega) (by have := pr_rng p hp; omega) (by have := pr_rng p hp; omega)
    have c2 := pr_pos hp
    refine ⟨(v, 1), A1, ?_, .inr ⟨hp, h0, h1, rfl⟩, b1.more (by omega)⟩
    unfold F__law_number m__law_number pA
    clear b b1 h0 h1 hp
    walk_at "ev"
theorem law_row_ev {p : Int} (hp : Fld p) {n : Nat} {A : Option MO} (w : Nat) (b : Bag n [A] 0) (hn : n + 2 * w < 900) (hw : w ≤ 100) (r : AHeap) : ∃ x A', F__law_row [.ref 0, .int p, .int (w : Int)] (A :: r) = .ok (.tup (x.map pA)) (A' :: r) ∧ RowN p 2 x ∧ x.length = w ∧ Bag (n + 2 * w) [A'] 0 := by
  have ei : iR1 (mCons (mVar 2) (mNil)) [some (.ref 0), some (.int p), some (.int (w : Int)), none] (A :: r) = .ok ((List.range w).map fun (k : Nat) => AV.int (k : Int)) (A :: r) := by
    rw [iR1_ev (j := (w : Int)) rfl (by omega) (by omega), Int.toNat_natCast, rng_map]
  obtain ⟨ys, k, q, ⟨x, A', rfl, rfl, hN, hL, hB⟩, _⟩ := lc_run (own := [3]) (g := gNm 3) (e := e0__law_row) ei (fun i acc k => ∃ (x : List (Int × Int)) (A' : Option MO), acc = x.map pA ∧ k = A' :: r ∧ RowN p 2 x ∧ x.length = i ∧ Bag (n + 2 * i) [A'] 0)
    ⟨[], A, rfl, rfl, fun x hx => (by cases hx), rfl, b⟩
    (by
      rintro k i acc kk hi ha ⟨x, A', rfl, rfl, hN, hL, hB⟩
      replace hi := (List.getElem?_eq_some_iff.mp hi).1
      rw [List.length_range] at hi
      obtain ⟨y, A2, q, ny, b2⟩ := number_ev (r := r ++ [some (.lst (x.map pA))]) hp hB (by omega)
      refine ⟨_, pA y, A2 :: r, rfl, ?_, rfl, x ++ [y], A2, by rw [List.map_append] <;> rfl, rfl, fun z hz => ?_, by rw [List.length_append, hL] <;> rfl, b2⟩
      · show e0__law_row _ (A' :: (r ++ [some (.lst (x.map pA))])) = .ok (pA y) (A2 :: (r ++ [some (.lst (x.map pA))]))
        unfold e0__law_row
        simp only [mMeth, mCall, mCons, mNil, mVar, mC, List.getElem?_cons_zero, List.getElem?_cons_succ, List.append_nil, List.length_cons, List.length_nil, Nat.reduceAdd, ↓reduceIte, wipeA, List.set_cons_succ, List.set_cons_zero, q]
      · rcases List.mem_append.mp hz with c | c
        · exact hN z c
        · have : z = y := by simpa using c
          rw [this]
          exact ny)
    (by
      rintro ys k ⟨x, A', rfl, rfl, hN, hL, hB⟩
      refine ⟨clsdL_pA x, by simp, fun i mo hi e => ?_⟩
      cases i with
      | zero =>
        have eB : A' = some mo := Option.some.inj e
        subst eB
        exact .inr (bag_clsd hB)
      | succ i =>
        left
        have e' : (r ++ [some (MO.lst (x.map pA))])[i]? = some (some mo) := e
        have hi' : i < r.length := by
          rw [List.length_cons] at hi
          omega
        rw [List.getElem?_append_left hi'] at e'
        exact e')
    (by rw [List.length_range]; exact small_len (by omega))
  rw [List.length_range] at hL hB
  refine ⟨x, A', ?_, hN, hL, hB⟩
  show noX (fnOf (mRet (mCB aTuple (mCons (mLc [3] (iR1 (mCons (mVar 2) (mNil))) (gNm 3) mYes e0__law_row) (mNil)))) 4) _ _ = _
  generalize mLc [3] (iR1 (mCons (mVar 2) (mNil))) (gNm 3) mYes e0__law_row = M at q
  obtain ⟨W, hW⟩ : ∃ W : Int, (w : Int) = W := ⟨_, rfl⟩
  rw [hW] at q ⊢
  simp only [noX, fnOf, mRet, mCB, mCons, mNil, List.map_cons, List.map_nil, List.length_cons, List.length_nil, List.cons_append, List.nil_append, Nat.reduceAdd, Nat.reduceSub, List.replicate_succ, List.replicate_zero, q, aTuple_lst]
end W

set_option maxRecDepth 100000
set_option maxHeartbeats 4000000
namespace W
open PySem PySem.Spec L2 Mi
local macro_rules | `(tactic| walk_at "ev") => `(tactic| simp only [noX, fnOf, mSeq, mNext, mAsg, gNm, mIfS, mTst, mTru, mOp, mUn, mVar, mC, mCons, mNil, mTup, mLst, mRet, mCall, mMeth, mCB, mIf, mAnd, mOr, mNot, mAndV, mOrV, mNotV, mNotT, mPar, mDrop, isLc, beq_self_eq_true, mLstC, ixN3_1, ixN3_2, pow18, pow30, pow6, List.set_set, gTp, gsCons, gsNil, mSetAt, mSetIx, mApp, mExt, mFrz, mChain, at_f0, List.map_cons, List.map_nil, List.length_cons, List.length_nil, List.cons_append, List.nil_append, List.append_nil, List.replicate_succ, List.replicate_zero, Nat.reduceAdd, Nat.reduceSub, List.getElem?_cons_zero, List.getElem?_cons_succ, List.set_cons_zero, List.set_cons_succ, aAt_0, aAt_1, aAt_2, aEq_int, aNe_int, aEq_t2, aNe_t2, aNe_ni, aNe_in, aNe_nn, aIx_t, aIx_l, aAdd_int, aSub_int, aMul_int, aMod_int, aFdiv_int, aCmp_int, aIs_n, aIsNot_n, aIsNot_b, tr_bl, tr_lst, isi_ii, isi_ib, isi_tt, aInt_int, aAbs_int, aLen_tup, aLen_lst, isN, sizeLine_eq, Nat.reduceLeDiff, Nat.reduceLT, ↓reduceIte, decide_true, decide_false, eq_self, if_true, Bool.false_eq_true, Bool.not_true, Bool.not_false, Bool.true_and, Bool.and_true, Bool.false_and, Bool.and_false, *])

def rowA (x : List (Int × Int)) : AV := .tup (x.map pA)
theorem rowA_clsd (x : List (Int × Int)) : clsd (rowA x) = true := clsdL_pA x
/-- rows drawn one behind another -/
theorem rows_lc {p : Int} (hp : Fld p) {n : Nat} {A : Option MO} (c w : Nat) (b : Bag n [A] 0) (hn : n + 2 * w * c < 800) (hw : w ≤ 100) (hc : c ≤ 100) {own : List Nat} {it : MI} {g : MG} {e : ME} {ρ : Env2} (ei : it ρ [A] = .ok ((List.range c).map fun (k : Nat) => AV.int (k : Int)) [A])
    (he : ∀ (k : Nat) (H : AHeap), ∃ ρ1, g (.int (k : Int)) (wipeA ρ own) H = .ok .nx ρ1 H ∧ ∀ d H', F__law_row [.ref 0, .int p, .int (w : Int)] H = .ok d H' → e ρ1 H = .ok d H') :
    ∃ (xs : List (List (Int × Int))) (A' : Option MO), mLc own it g mYes e ρ [A] = .ok (.lst (xs.map rowA)) [A'] ∧ (∀ x ∈ xs, RowN p 2 x ∧ x.length = w) ∧ xs.length = c ∧ Bag (n + 2 * w * c) [A'] 0 := by
  obtain ⟨ys, k, q, ⟨xs, A', rfl, rfl, hN, hL, hB⟩, _⟩ := lc_run (own := own) (g := g) (e := e) ei (fun i acc k => ∃ (xs : List (List (Int × Int))) (A' : Option MO), acc = xs.map rowA ∧ k = [A'] ∧ (∀ x ∈ xs, RowN p 2 x ∧ x.length = w) ∧ xs.length = i ∧ Bag (n + 2 * w * i) [A'] 0)
    ⟨[], A, rfl, rfl, fun x hx => (by cases hx), rfl, b⟩
    (by
      rintro k i acc kk hi ha ⟨xs, A', rfl, rfl, hN, hL, hB⟩
      replace hi := (List.getElem?_eq_some_iff.mp hi).1
      rw [List.length_range] at hi
      have hi2 : 2 * w * (i + 1) ≤ 2 * w * c := Nat.mul_le_mul_left _ (by omega)
      rw [Nat.mul_succ] at hi2
      obtain ⟨x, A2, q, nx, lx, b2⟩ := law_row_ev hp w hB (by omega) hw [some (.lst (xs.map rowA))]
      obtain ⟨ρ1, g1, g2⟩ := he k ([A'] ++ [some (.lst (xs.map rowA))])
      refine ⟨ρ1, rowA x, [A2], g1, g2 _ _ q, rfl, xs ++ [x], A2, by rw [List.map_append] <;> rfl, rfl, fun z hz => ?_, by rw [List.length_append, hL] <;> rfl, ?_⟩
      · rcases List.mem_append.mp hz with c | c
        · exact hN z c
        · have : z = x := by simpa using c
          rw [this]
          exact ⟨nx, lx⟩
      · rw [Nat.mul_succ]
        have e : n + 2 * w * i + 2 * w = n + (2 * w * i + 2 * w) := by omega
        rw [e] at b2
        exact b2)
    (by
      rintro ys k ⟨xs, A', rfl, rfl, hN, hL, hB⟩
      exact ⟨clsdL_of fun v hv => by
        obtain ⟨x, _, rfl⟩ := List.mem_map.mp hv
        exact rowA_clsd x, bag_drop hB⟩)
    (by rw [List.length_range]; exact small_len (by omega))
  rw [List.length_range] at hL hB
  exact ⟨xs, A', q, hN, hL, hB⟩
/-- a row, as a list or as a tuple -/
theorem law_list_ev {n : Nat} {A : Option MO} {r : AHeap} (b : Bag n [A] 0) (hn : n < 900) (x : List (Int × Int)) : ∃ v A', F__law_list [.ref 0, rowA x] (A :: r) = .ok v (A' :: r) ∧ (v = .tup (x.map pA) ∨ v = .lst (x.map pA)) ∧ Bag (n + 1) [A'] 0 := by
  obtain ⟨v, A1, q1, h0, h1, b1⟩ := draw0 (r := r) (L := 2) b (by omega) (by decide) (by decide)
  have t1 : ∀ h, aList [rowA x] h = some (.lst (x.map pA)) := fun _ => rfl
  have t2 : ∀ h, aTuple [rowA x] h = some (.tup (x.map pA)) := fun _ => rfl
  by_cases c : v = 1
  · have c1 : (v == 1) = true := by simpa using c
    refine ⟨_, A1, ?_, .inr rfl, b1⟩
    unfold F__law_list m__law_list
    clear b b1 c h0 h1
    walk_at "ev"
  · have c1 : (v == 1) = false := by simpa using c
    refine ⟨_, A1, ?_, .inl rfl, b1⟩
    unfold F__law_list m__law_list
    clear b b1 c h0 h1
    walk_at "ev"
theorem lists_lc {n : Nat} {A : Option MO} {xs : List (List (Int × Int))} (b : Bag n [A] 0) (hn : n + xs.length < 800) {own : List Nat} {it : MI} {g : MG} {e : ME} {ρ : Env2} (ei : it ρ [A] = .ok (xs.map rowA) [A])
    (he : ∀ (x : List (Int × Int)) (H : AHeap), ∃ ρ1, g (rowA x) (wipeA ρ own) H = .ok .nx ρ1 H ∧ ∀ d H', F__law_list [.ref 0, rowA x] H = .ok d H' → e ρ1 H = .ok d H') :
    ∃ (T : Tab) (A' : Option MO), mLc own it g mYes e ρ [A] = .ok (.lst (T.map (·.1))) [A'] ∧ T.map (·.2) = xs ∧ (∀ t ∈ T, t.1 = .tup (t.2.map pA) ∨ t.1 = .lst (t.2.map pA)) ∧ Bag (n + xs.length) [A'] 0 := by
  obtain ⟨ys, k, q, ⟨T, A', rfl, rfl, hN, hL, hB⟩, _⟩ := lc_run (own := own) (g := g) (e := e) ei (fun i acc k => ∃ (T : Tab) (A' : Option MO), acc = T.map (·.1) ∧ k = [A'] ∧ T.map (·.2) = xs.take i ∧ (∀ t ∈ T, t.1 = .tup (t.2.map pA) ∨ t.1 = .lst (t.2.map pA)) ∧ Bag (n + i) [A'] 0)
    ⟨[], A, rfl, rfl, rfl, fun x hx => (by cases hx), b⟩
    (by
      rintro x i acc kk hi ha ⟨T, A', rfl, rfl, hN, hL, hB⟩
      have il := (List.getElem?_eq_some_iff.mp hi).1
      obtain ⟨v, A2, q, hv, b2⟩ := law_list_ev (r := [some (.lst (T.map (·.1)))]) hB (by omega) x
      obtain ⟨ρ1, g1, g2⟩ := he x ([A'] ++ [some (.lst (T.map (·.1)))])
      refine ⟨ρ1, v, [A2], g1, g2 _ _ q, rfl, T ++ [(v, x)], A2, by rw [List.map_append] <;> rfl, rfl, ?_, fun t ht => ?_, b2⟩
      · rw [List.map_append, hN, List.take_succ, hi]
        rfl
      · rcases List.mem_append.mp ht with c | c
        · exact hL t c
        · have : t = (v, x) := by simpa using c
          rw [this]
          exact hv)
    (by
      rintro ys k ⟨T, A', rfl, rfl, hN, hL, hB⟩
      exact ⟨clsdL_of fun v hv => by
        obtain ⟨t, ht, rfl⟩ := List.mem_map.mp hv
        rcases hL t ht with e | e <;> rw [e] <;> exact clsdL_pA _, bag_drop hB⟩)
    (by exact small_len (by omega))
  rw [List.take_length] at hN
  exact ⟨T, A', q, hN, hL, hB⟩
end W

set_option maxRecDepth 100000
set_option maxHeartbeats 4000000
namespace W
open PySem PySem.Spec L2 Mi
theorem isi_it {a : Int} {h : AHeap} : aIsi "tuple" [.int a, .ty "tuple"] h = some (.bl false) := isi rfl (by decide +kernel)
theorem isi_is {a : Int} {h : AHeap} : aIsi "str" [.int a, .ty "str"] h = some (.bl false) := isi rfl (by decide +kernel)
theorem bools_all : ∀ l : List AV, fAll (l.map fun _ => AV.bl true) = some (.bl true) := by
  intro l
  have e : bools (l.map fun _ => AV.bl true) = some (l.map fun _ => true) := by
    induction l with
    | nil => rfl
    | cons x l ih =>
      rw [List.map_cons, List.map_cons]
      unfold bools
      rw [ih] <;> rfl
  have e2 : ((l.map fun _ => true).all id) = true := by
    clear e
    induction l with
    | nil => rfl
    | cons x l ih => rw [List.map_cons, List.all_cons, ih] <;> rfl
  unfold fAll
  rw [e]
  dsimp only
  rw [e2]
theorem map_id' (l : List AV) : (l.map fun x => x) = l := List.map_id' l
local macro_rules | `(tactic| walk_at "ev") => `(tactic| simp only [noX, fnOf, mSeq, mNext, mAsg, gNm, mIfS, mTst, mTru, mOp, mUn, mVar, mC, mCons, mNil, mTup, mLst, mRet, mCall, mMeth, mCB, mIf, mAnd, mOr, mNot, mAndV, mOrV, mNotV, mNotT, mPar, mDrop, isLc, beq_self_eq_true, mLstC, ixN3_1, ixN3_2, pow18, pow30, pow6, List.set_set, gTp, gsCons, gsNil, mSetAt, mSetIx, mApp, mExt, mFrz, mChain, at_f0, List.map_cons, List.map_nil, List.length_cons, List.length_nil, List.cons_append, List.nil_append, List.append_nil, List.replicate_succ, List.replicate_zero, Nat.reduceAdd, Nat.reduceSub, List.getElem?_cons_zero, List.getElem?_cons_succ, List.set_cons_zero, List.set_cons_succ, aAt_0, aAt_1, aAt_2, aEq_int, aNe_int, aEq_t2, aNe_t2, aNe_ni, aNe_in, aNe_nn, aIx_t, aIx_l, aAdd_int, aSub_int, aMul_int, aMod_int, aFdiv_int, aCmp_int, aIs_n, aIsNot_n, aIsNot_b, tr_bl, tr_lst, isi_ii, isi_ib, isi_tt, isi_it, isi_is, aInt_int, aAbs_int, aLen_tup, aLen_lst, isN, sizeLine_eq, Nat.reduceLeDiff, Nat.reduceLT, ↓reduceIte, decide_true, decide_false, eq_self, if_true, Bool.false_eq_true, Bool.not_true, Bool.not_false, Bool.true_and, Bool.and_true, Bool.false_and, Bool.and_false, *])
theorem kinds_int1 (a d : Int) (h : AHeap) : F__law_kinds_u1 [.int a, .int d] h = .ok (.bl true) h := by
  unfold F__law_kinds_u1 m__law_kinds_u1
  walk_at "ev"
theorem kinds_int2 (a d : Int) (h : AHeap) : F__law_kinds_u2 [.int a, .int d] h = .ok (.bl true) h := by
  unfold F__law_kinds_u2 m__law_kinds_u2
  walk_at "ev"
theorem kinds_int3 (a d : Int) (h : AHeap) : F__law_kinds_u3 [.int a, .int d] h = .ok (.bl true) h := by
  unfold F__law_kinds_u3 m__law_kinds_u3
  walk_at "ev"
theorem kinds_int4 (a d : Int) (h : AHeap) : F__law_kinds_u4 [.int a, .int d] h = .ok (.bl true) h := by
  unfold F__law_kinds_u4 m__law_kinds_u4
  walk_at "ev"
theorem kinds_tup2 {l : List AV} {d : Int} (hd : 0 < d) (hl : l.length ≤ 1000) (hx : ∀ v ∈ l, ∀ h, F__law_kinds_u1 [v, .int (d - 1)] h = .ok (.bl true) h) (h : AHeap) : F__law_kinds_u2 [.tup l, .int d] h = .ok (.bl true) h := by
  have ei : iSq (mVar 0) [some (.tup l), some (.int d), none] h = .ok (l.map fun x => x) h := by
    rw [map_id']
    rfl
  have lc := lc_map (own := [2]) (g := gNm 2) (e := e0__law_kinds_u2) (k := fun _ => AV.bl true) ei (fun v hv acc => ⟨_, rfl, by
    have q := hx v hv
    unfold e0__law_kinds_u2
    simp only [mOp, aSub_int, mMeth, mCall, mCons, mNil, mVar, mC, List.getElem?_cons_zero, List.getElem?_cons_succ, List.append_nil, List.length_cons, List.length_nil, Nat.reduceAdd, ↓reduceIte, wipeA, List.set_cons_succ, List.set_cons_zero, q]⟩) (fun _ _ => rfl) (small_len hl)
  have fa : ∀ h, onL fAll [.lst (l.map fun _ => AV.bl true)] h = some (.bl true) := fun h => bools_all l
  have d1 : decide (0 < d) = true := by simpa using hd
  unfold F__law_kinds_u2 m__law_kinds_u2
  generalize mLc [2] (iSq (mVar 0)) (gNm 2) mYes e0__law_kinds_u2 = M at lc ⊢
  clear hd hl hx ei
  walk_at "ev"
theorem kinds_tup3 {l : List AV} {d : Int} (hd : 0 < d) (hl : l.length ≤ 1000) (hx : ∀ v ∈ l, ∀ h, F__law_kinds_u2 [v, .int (d - 1)] h = .ok (.bl true) h) (h : AHeap) : F__law_kinds_u3 [.tup l, .int d] h = .ok (.bl true) h := by
  have ei : iSq (mVar 0) [some (.tup l), some (.int d), none] h = .ok (l.map fun x => x) h := by
    rw [map_id']
    rfl
  have lc := lc_map (own := [2]) (g := gNm 2) (e := e0__law_kinds_u3) (k := fun _ => AV.bl true) ei (fun v hv acc => ⟨_, rfl, by
    have q := hx v hv
    unfold e0__law_kinds_u3
    simp only [mOp, aSub_int, mMeth, mCall, mCons, mNil, mVar, mC, List.getElem?_cons_zero, List.getElem?_cons_succ, List.append_nil, List.length_cons, List.length_nil, Nat.reduceAdd, ↓reduceIte, wipeA, List.set_cons_succ, List.set_cons_zero, q]⟩) (fun _ _ => rfl) (small_len hl)
  have fa : ∀ h, onL fAll [.lst (l.map fun _ => AV.bl true)] h = some (.bl true) := fun h => bools_all l
  have d1 : decide (0 < d) = true := by simpa using hd
  unfold F__law_kinds_u3 m__law_kinds_u3
  generalize mLc [2] (iSq (mVar 0)) (gNm 2) mYes e0__law_kinds_u3 = M at lc ⊢
  clear hd hl hx ei
  walk_at "ev"
theorem kinds_tup4 {l : List AV} {d : Int} (hd : 0 < d) (hl : l.length ≤ 1000) (hx : ∀ v ∈ l, ∀ h, F__law_kinds_u3 [v, .int (d - 1)] h = .ok (.bl true) h) (h : AHeap) : F__law_kinds_u4 [.tup l, .int d] h = .ok (.bl true) h := by
  have ei : iSq (mVar 0) [some (.tup l), some (.int d), none] h = .ok (l.map fun x => x) h := by
    rw [map_id']
    rfl
  have lc := lc_map (own := [2]) (g := gNm 2) (e := e0__law_kinds_u4) (k := fun _ => AV.bl true) ei (fun v hv acc => ⟨_, rfl, by
    have q := hx v hv
    unfold e0__law_kinds_u4
    simp only [mOp, aSub_int, mMeth, mCall, mCons, mNil, mVar, mC, List.getElem?_cons_zero, List.getElem?_cons_succ, List.append_nil, List.length_cons, List.length_nil, Nat.reduceAdd, ↓reduceIte, wipeA, List.set_cons_succ, List.set_cons_zero, q]⟩) (fun _ _ => rfl) (small_len hl)
  have fa : ∀ h, onL fAll [.lst (l.map fun _ => AV.bl true)] h = some (.bl true) := fun h => bools_all l
  have d1 : decide (0 < d) = true := by simpa using hd
  unfold F__law_kinds_u4 m__law_kinds_u4
  generalize mLc [2] (iSq (mVar 0)) (gNm 2) mYes e0__law_kinds_u4 = M at lc ⊢
  clear hd hl hx ei
  walk_at "ev"
theorem kinds_pA2 {d : Int} (hd : 0 < d) (x : Int × Int) (h : AHeap) : F__law_kinds_u2 [pA x, .int d] h = .ok (.bl true) h := kinds_tup2 hd (by simp) (fun v hv h => by
  rcases List.mem_cons.mp hv with rfl | hv
  · exact kinds_int1 _ _ h
  · have : v = .int x.2 := by simpa using hv
    rw [this]
    exact kinds_int1 _ _ h) h
theorem kinds_pA3 {d : Int} (hd : 0 < d) (x : Int × Int) (h : AHeap) : F__law_kinds_u3 [pA x, .int d] h = .ok (.bl true) h := kinds_tup3 hd (by simp) (fun v hv h => by
  rcases List.mem_cons.mp hv with rfl | hv
  · exact kinds_int2 _ _ h
  · have : v = .int x.2 := by simpa using hv
    rw [this]
    exact kinds_int2 _ _ h) h
theorem kinds_pA4 {d : Int} (hd : 0 < d) (x : Int × Int) (h : AHeap) : F__law_kinds_u4 [pA x, .int d] h = .ok (.bl true) h := kinds_tup4 hd (by simp) (fun v hv h => by
  rcases List.mem_cons.mp hv with rfl | hv
  · exact kinds_int3 _ _ h
  · have : v = .int x.2 := by simpa using hv
    rw [this]
    exact kinds_int3 _ _ h) h
theorem kinds_row3 {d : Int} (hd : 1 < d) {r : List (Int × Int)} (hr : r.length ≤ 1000) (h : AHeap) : F__law_kinds_u3 [rowA r, .int d] h = .ok (.bl true) h := kinds_tup3 (by omega) (by rw [List.length_map]; exact hr) (fun v hv h => by
  obtain ⟨x, _, rfl⟩ := List.mem_map.mp hv
  exact kinds_pA2 (by omega) x h) h
theorem kinds_row4 {d : Int} (hd : 1 < d) {r : List (Int × Int)} (hr : r.length ≤ 1000) (h : AHeap) : F__law_kinds_u4 [rowA r, .int d] h = .ok (.bl true) h := kinds_tup4 (by omega) (by rw [List.length_map]; exact hr) (fun v hv h => by
  obtain ⟨x, _, rfl⟩ := List.mem_map.mp hv
  exact kinds_pA3 (by omega) x h) h
theorem kinds_tab4 {xs : List (List (Int × Int))} (hl : xs.length ≤ 1000) (hr : ∀ r ∈ xs, r.length ≤ 1000) (h : AHeap) : F__law_kinds_u4 [.tup (xs.map rowA), .int 3] h = .ok (.bl true) h := kinds_tup4 (by decide) (by rw [List.length_map]; exact hl) (fun v hv h => by
  obtain ⟨r, hm, rfl⟩ := List.mem_map.mp hv
  exact kinds_row3 (by decide) (hr r hm) h) h
/-! ### the same rows, told in another way -/
theorem zip_range {α β γ : Type} (f : α → β → γ) (da : α) (db : β) : ∀ (r : List α) (s : List β), r.length = s.length → (r.zip s).map (fun z => f z.1 z.2) = (List.range r.length).map fun k => f (r.getD k da) (s.getD k db) := by
  intro r s hl
  apply List.ext_getElem?
  intro i
  rw [List.getElem?_map, List.getElem?_map]
  by_cases hi : i < r.length
  · have hi2 : i < s.length := by omega
    have e1 : (r.zip s)[i]? = some (r[i], s[i]) := by
      rw [List.getElem?_eq_getElem (by rw [List.length_zip]; omega), List.getElem_zip]
    rw [e1, List.getElem?_range hi]
    show some (f r[i] s[i]) = some (f (r.getD i da) (s.getD i db))
    rw [List.getD_eq_getElem?_getD, List.getD_eq_getElem?_getD, List.getElem?_eq_getElem hi, List.getElem?_eq_getElem hi2]
    rfl
  · rw [List.getElem?_eq_none (by rw [List.length_zip]; omega), List.getElem?_eq_none (by rw [List.length_range]; omega)]
    rfl
/-- a row times a table: each place is a sum of products -/
theorem fold_cols {p : Int} {n m w : Nat} : ∀ (L : List ((Int × Int) × (AV × List (Int × Int)))) (a : Nat → Int × Int), (∀ z ∈ L, Num p n z.1 ∧ RowN p m z.2.2 ∧ z.2.2.length = w) → (∀ k, k < w → ∃ b, Num p b (a k)) →
    L.foldl (qrowF p) ((List.range w).map a) = (List.range w).map fun k => (L.map fun z => (z.1, z.2.2.getD k (0, 1))).foldl (stp p) (a k)
  | [], a, _, _ => rfl
  | z :: L, a, hL, ha => by
    obtain ⟨h1, h2, h3⟩ := hL z List.mem_cons_self
    have e : qrowF p ((List.range w).map a) z = (List.range w).map fun k => stp p (a k) (z.1, z.2.2.getD k (0, 1)) := by
      unfold qrowF
      by_cases c : z.1.1 = 0
      · rw [if_neg (fun q => q c)]
        apply List.map_congr_left
        intro k _
        unfold stp
        rw [if_neg (fun q => q.1 c)]
      · rw [if_pos c]
        have q := zip_range (fun (t y : Int × Int) => qplus p t y) (0, 1) (0, 1) ((List.range w).map a) (z.2.2.map fun y => qtimes p z.1 y) (by rw [List.length_map, List.length_range, List.length_map, h3])
        rw [q, List.length_map, List.length_range]
        apply List.map_congr_left
        intro k hk
        have hk' := List.mem_range.mp hk
        have e1 : ((List.range w).map a).getD k (0, 1) = a k := by
          rw [List.getD_eq_getElem?_getD, List.getElem?_map, List.getElem?_range hk']
          rfl
        have e2 : (z.2.2.map fun y => qtimes p z.1 y).getD k (0, 1) = qtimes p z.1 (z.2.2.getD k (0, 1)) := by
          rw [List.getD_eq_getElem?_getD, List.getD_eq_getElem?_getD, List.getElem?_map, List.getElem?_eq_getElem (by omega)]
          rfl
        rw [e1, e2]
        unfold stp
        by_cases d : (z.2.2.getD k (0, 1)).1 = 0
        · rw [if_neg (fun q => q.2 d)]
          have nk : Num p m (z.2.2.getD k (0, 1)) := by
            rw [List.getD_eq_getElem?_getD, List.getElem?_eq_getElem (by omega)]
            exact h2 _ (List.getElem_mem _)
          rw [nk.eq0 d, qtimes_zero h1]
          obtain ⟨b, hb⟩ := ha k hk'
          exact qplus_zero hb
        · rw [if_pos ⟨c, d⟩]
    rw [List.foldl_cons, e, fold_cols L _ (fun y hy => hL y (List.mem_cons_of_mem _ hy)) (fun k hk => ?_)]
    · rfl
    · obtain ⟨b, hb⟩ := ha k hk
      have nk : Num p m (z.2.2.getD k (0, 1)) := by
        rw [List.getD_eq_getElem?_getD, List.getElem?_eq_getElem (by omega)]
        exact h2 _ (List.getElem_mem _)
      exact ⟨_, stp_num hb h1 nk⟩
theorem zip_map_r {α β γ : Type} (f : β → γ) : ∀ (r : List α) (s : List β), r.zip (s.map f) = (r.zip s).map fun z => (z.1, f z.2)
  | [], _ => by rw [List.zip_nil_left, List.zip_nil_left] <;> rfl
  | _ :: _, [] => rfl
  | x :: r, y :: s => by
    rw [List.map_cons, List.zip_cons_cons, List.zip_cons_cons, List.map_cons, zip_map_r f r s]
theorem rowtab_cols {p : Int} {n m w : Nat} {r : List (Int × Int)} {T : Tab} (hp : Fld p) (hr : RowN p n r) (hN : TabN p m w T) : qrowtab p w r T = (List.range w).map fun k => qdot p r (col T k) := by
  unfold qrowtab zrow
  rw [fold_cols (n := n) (m := m) (w := w) (r.zip T) (fun _ => (0, 1)) (fun z hz => ⟨hr _ (List.of_mem_zip hz).1, hN _ (List.of_mem_zip hz).2⟩) (fun k _ => ⟨1, Num.zero hp⟩)]
  apply List.map_congr_left
  intro k _
  unfold qdot col
  rw [zip_map_r]
theorem col_eq {T S : Tab} (h : T.map (·.2) = S.map (·.2)) (k : Nat) : col T k = col S k := by
  have e : ∀ U : Tab, col U k = (U.map (·.2)).map fun r => r.getD k (0, 1) := fun U => by
    unfold col
    rw [List.map_map] <;> rfl
  rw [e, e, h]
end W

set_option maxRecDepth 100000
set_option maxHeartbeats 4000000
namespace W
open PySem PySem.Spec L2 Mi
theorem int_text : ∀ n : Nat, n < 201 → (PyData.shown (.int ((n : Int) - 100))).length ≤ 6 ∧ PyData.strOk (PyData.shown (.int ((n : Int) - 100))) = true := by decide +kernel
theorem strOk_app {a b : Str} (ha : PyData.strOk a = true) (hb : PyData.strOk b = true) : PyData.strOk (a ++ b) = true := by
  unfold PyData.strOk at *
  show (a.cps ++ b.cps).all _ = true
  rw [Array.all_append, ha, hb]
  rfl
/-- a text of at most b signs -/
def Tx (b : Nat) (t : Str) : Prop := t.length ≤ b ∧ PyData.strOk t = true
theorem tx_int {i : Int} (h1 : -100 ≤ i) (h2 : i ≤ 100) : Tx 6 (PyData.shown (.int i)) := by
  have q := int_text (i + 100).toNat (by omega)
  rw [Int.toNat_of_nonneg (by omega), show i + 100 - 100 = i by omega] at q
  exact q
theorem ok_from : ∀ (ts : List Str) (k : Nat) (acc : Str), PyData.strOk acc = true → (∀ t ∈ ts, PyData.strOk t = true) → PyData.strOk (textFrom k acc ts) = true
  | [], _, _, h, _ => h
  | t :: ts, k, acc, h, ht => by
    refine ok_from ts (k + 1) _ (strOk_app (strOk_app h ?_) (ht t List.mem_cons_self)) fun u hu => ht u (List.mem_cons_of_mem _ hu)
    split <;> decide +kernel
theorem ok_join : ∀ ts : List Str, (∀ t ∈ ts, PyData.strOk t = true) → PyData.strOk (Str.join ", " ts) = true
  | [], _ => by decide +kernel
  | [x], h => h x List.mem_cons_self
  | x :: y :: r, h => strOk_app (strOk_app (h x List.mem_cons_self) (by decide +kernel)) (ok_join (y :: r) fun t ht => h t (List.mem_cons_of_mem _ ht))
theorem sum_le {b : Nat} : ∀ ts : List Str, (∀ t ∈ ts, Tx b t) → (ts.map (·.length)).sum ≤ ts.length * b
  | [], _ => Nat.zero_le _
  | t :: ts, h => by
    have q := sum_le ts fun u hu => h u (List.mem_cons_of_mem _ hu)
    have := (h t List.mem_cons_self).1
    rw [List.map_cons, List.sum_cons, List.length_cons, Nat.succ_mul]
    omega
theorem tx_tup {b c : Nat} {ts : List Str} (h : ∀ t ∈ ts, Tx b t) (hc : ts.length * b + 2 * ts.length + 3 ≤ c) : Tx c (tupleText ts) := by
  refine ⟨?_, ?_⟩
  · have := tupleText_len_le ts
    have := sum_le ts h
    omega
  · unfold tupleText
    refine strOk_app (strOk_app (by decide +kernel) (ok_join ts fun t ht => (h t ht).2)) ?_
    split <;> decide +kernel
theorem tx_lst {b c : Nat} {ts : List Str} (h : ∀ t ∈ ts, Tx b t) (hc : ts.length * b + 2 * ts.length + 3 ≤ c) : Tx c (listText ts) := by
  refine ⟨?_, ?_⟩
  · have := listText_len_le ts
    have := sum_le ts h
    omega
  · unfold listText
    exact strOk_app (ok_from ts 0 _ (by decide +kernel) fun t ht => (h t ht).2) (by decide +kernel)
/-- data that is shown by at most b signs -/
structure Sh (b : Nat) (d : PyData) : Prop where
  tx : Tx b d.shown
  sh : d.showable = true
  can : d.canLay0 = true
theorem shAll {b : Nat} : ∀ {ds : List PyData}, (∀ d ∈ ds, Sh b d) → (∀ t ∈ PyData.shownAll ds, Tx b t) ∧ (PyData.shownAll ds).length = ds.length ∧ PyData.showableAll ds = true ∧ PyData.canLayAll0 ds = true
  | [], _ => ⟨fun t ht => (by cases ht), rfl, rfl, rfl⟩
  | d :: ds, h => by
    obtain ⟨q1, q2, q3, q4⟩ := shAll (ds := ds) fun e he => h e (List.mem_cons_of_mem _ he)
    have hd := h d List.mem_cons_self
    refine ⟨fun t ht => ?_, ?_, ?_, ?_⟩
    · rcases List.mem_cons.mp ht with rfl | ht
      · exact hd.tx
      · exact q1 t ht
    · show (PyData.shownAll ds).length + 1 = _
      rw [q2] <;> rfl
    · show (d.showable && PyData.showableAll ds) = true
      rw [hd.sh, q3]
      rfl
    · show (d.canLay0 && PyData.canLayAll0 ds) = true
      rw [hd.can, q4]
      rfl
theorem sh_tup {b c : Nat} {ds : List PyData} (h : ∀ d ∈ ds, Sh b d) (hc : ds.length * b + 2 * ds.length + 3 ≤ c) : Sh c (.tuple ds) := by
  obtain ⟨q1, q2, q3, q4⟩ := shAll h
  exact ⟨tx_tup q1 (by rw [q2]; exact hc), q3, q4⟩
theorem sh_lst {b c : Nat} {ds : List PyData} (h : ∀ d ∈ ds, Sh b d) (hc : ds.length * b + 2 * ds.length + 3 ≤ c) : Sh c (.list ds) := by
  obtain ⟨q1, q2, q3, q4⟩ := shAll h
  exact ⟨tx_lst q1 (by rw [q2]; exact hc), q3, q4⟩
theorem sh_int {i : Int} (h1 : -100 ≤ i) (h2 : i ≤ 100) : Sh 6 (.int i) := by
  refine ⟨tx_int h1 h2, ?_, rfl⟩
  show decide (i.natAbs.log2 < 1920) = true
  rw [decide_eq_true_eq]
  have : i.natAbs.log2 < 7 := PySem.Flt.log2_lt_of (by decide) (by omega)
  omega
/-- small numbers -/
def Small (x : Int × Int) : Prop := -100 ≤ x.1 ∧ x.1 ≤ 100 ∧ -100 ≤ x.2 ∧ x.2 ≤ 100
theorem sh_pD {x : Int × Int} (h : Small x) : Sh 19 (pD x) := sh_tup (b := 6) (fun d hd => by
  rcases List.mem_cons.mp hd with rfl | hd
  · exact sh_int h.1 h.2.1
  · have : d = .int x.2 := by simpa using hd
    rw [this]
    exact sh_int h.2.2.1 h.2.2.2) (by simp)
theorem num_small {p : Int} {x : Int × Int} (h : Num p 2 x) : Small x := by
  rcases h with ⟨_, h⟩ | ⟨hp, h0, h1, h2⟩
  · obtain ⟨a, _, b, c⟩ := h
    refine ⟨?_, ?_, ?_, ?_⟩ <;> omega
  · have := pr_rng p hp
    refine ⟨?_, ?_, ?_, ?_⟩ <;> omega
theorem py0L_rows : ∀ {T : Tab}, (∀ t ∈ T, t.1 = .tup (t.2.map pA) ∨ t.1 = .lst (t.2.map pA)) → (∀ t ∈ T, (∀ x ∈ t.2, Small x) ∧ t.2.length ≤ 6) → ∃ ds, py0L (T.map (·.1)) = some ds ∧ ds.length = T.length ∧ (∀ d ∈ ds, Sh 150 d) ∧ PyData.depthAll ds ≤ 10
  | [], _, _ => ⟨[], rfl, rfl, fun d hd => (by cases hd), by decide⟩
  | t :: T, hf, hs => by
    obtain ⟨ds, q1, q2, q3, q4⟩ := py0L_rows (T := T) (fun u hu => hf u (List.mem_cons_of_mem _ hu)) fun u hu => hs u (List.mem_cons_of_mem _ hu)
    obtain ⟨s1, s2⟩ := hs t List.mem_cons_self
    have sd : ∀ d ∈ t.2.map pD, Sh 19 d := fun d hd => by
      obtain ⟨x, hx, rfl⟩ := List.mem_map.mp hd
      exact sh_pD (s1 x hx)
    have ln : (t.2.map pD).length * 19 + 2 * (t.2.map pD).length + 3 ≤ 150 := by
      rw [List.length_map]
      omega
    have dp := dep_pairs t.2
    have e0 : ∃ d, py0 t.1 = some d ∧ Sh 150 d ∧ d.depth ≤ 6 := by
      rcases hf t List.mem_cons_self with e | e
      · refine ⟨.tuple (t.2.map pD), ?_, sh_tup sd ln, ?_⟩
        · rw [e]
          show (match py0L (t.2.map pA) with
            | some d => some (PyData.tuple d)
            | none => none) = _
          rw [py0L_pairs]
        · show PyData.depthAll (t.2.map pD) + 1 ≤ 6
          omega
      · refine ⟨.list (t.2.map pD), ?_, sh_lst sd ln, ?_⟩
        · rw [e]
          show (match py0L (t.2.map pA) with
            | some d => some (PyData.list d)
            | none => none) = _
          rw [py0L_pairs]
        · show PyData.depthAll (t.2.map pD) + 1 ≤ 6
          omega
    obtain ⟨d, e1, e2, e3⟩ := e0
    refine ⟨d :: ds, ?_, by rw [List.length_cons, List.length_cons, q2], fun u hu => ?_, ?_⟩
    · rw [List.map_cons]
      unfold py0L
      rw [e1, q1]
    · rcases List.mem_cons.mp hu with rfl | hu
      · exact e2
      · exact q3 u hu
    · show max d.depth (PyData.depthAll ds) ≤ 10
      omega
theorem repr_ev {T : Tab} (hf : ∀ t ∈ T, t.1 = .tup (t.2.map pA) ∨ t.1 = .lst (t.2.map pA)) (hs : ∀ t ∈ T, (∀ x ∈ t.2, Small x) ∧ t.2.length ≤ 6) (hl : T.length ≤ 10) : ∃ S : Str, (∀ h, aRepr [.lst (T.map (·.1))] h = some (.str S)) ∧ ∀ h, aEq (.str S) (.str S) h = some (.bl true) := by
  obtain ⟨ds, q1, q2, q3, q4⟩ := py0L_rows hf hs
  have sl : Sh 3000 (.list ds) := sh_lst q3 (by rw [q2]; omega)
  have e : ∀ h, py h (.lst (T.map (·.1))) = some (.list ds) := fun h => by
    show (match py0L (T.map (·.1)) with
      | some d => some (PyData.list d)
      | none => none) = _
    rw [q1]
  have sp : SeqAt.shaped (.list ds) = true := by
    unfold SeqAt.shaped
    have d1 : PyData.depth (.list ds) ≤ 64 := by
      show PyData.depthAll ds + 1 ≤ 64
      omega
    rw [sl.can, decide_eq_true d1]
    rfl
  refine ⟨(PyData.list ds).shown, fun h => ?_, fun h => ?_⟩
  · show (match getL h (.lst (T.map (·.1))), py h (.lst (T.map (·.1))) with
      | some _, some d => if d.showable = true ∧ SeqAt.shaped d = true ∧ d.shown.length ≤ sizeLine then some (AV.str d.shown) else none
      | _, _ => none) = _
    rw [e h]
    have z : (PyData.list ds).shown.length ≤ sizeLine := by
      rw [sizeLine_eq]
      have := sl.tx.1
      omega
    show (if (PyData.list ds).showable = true ∧ SeqAt.shaped (.list ds) = true ∧ (PyData.list ds).shown.length ≤ sizeLine then some (AV.str (PyData.list ds).shown) else none) = _
    rw [if_pos ⟨sl.sh, sp, z⟩]
  · have s2 : SeqAt.shaped (.str (PyData.list ds).shown) = true := by
      unfold SeqAt.shaped
      show (PyData.strOk _ && decide (0 ≤ 64)) = true
      rw [sl.tx.2]
      rfl
    show (if SeqAt.shaped (.str (PyData.list ds).shown) = true ∧ SeqAt.shaped (.str (PyData.list ds).shown) = true then some (AV.bl (PyData.eqv (.str (PyData.list ds).shown) (.str (PyData.list ds).shown))) else none) = _
    rw [if_pos ⟨s2, s2⟩, SeqAt.eqv_refl _ (SeqAt.canLay_of_shaped s2)]
end W

set_option maxRecDepth 100000
set_option maxHeartbeats 4000000
namespace W
open PySem PySem.Spec L2 Mi
local macro_rules | `(tactic| walk_at "ev") => `(tactic| simp only [noX, fnOf, mSeq, mNext, mAsg, gNm, mIfS, mTst, mTru, mOp, mUn, mVar, mC, mCons, mNil, mTup, mLst, mRet, mCall, mMeth, mCB, mIf, mAnd, mOr, mNot, mAndV, mOrV, mNotV, mNotT, mPar, mDrop, isLc, beq_self_eq_true, mLstC, ixN3_1, ixN3_2, pow18, pow30, pow6, List.set_set, gTp, gsCons, gsNil, mSetAt, mSetIx, mApp, mExt, mFrz, mChain, at_f0, List.map_cons, List.map_nil, List.length_cons, List.length_nil, List.cons_append, List.nil_append, List.append_nil, List.replicate_succ, List.replicate_zero, Nat.reduceAdd, Nat.reduceSub, List.getElem?_cons_zero, List.getElem?_cons_succ, List.set_cons_zero, List.set_cons_succ, aAt_0, aAt_1, aAt_2, aEq_int, aNe_int, aEq_t2, aNe_t2, aNe_ni, aNe_in, aNe_nn, aIx_t, aIx_l, aAdd_int, aSub_int, aMul_int, aMod_int, aFdiv_int, aCmp_int, aIs_n, aIsNot_n, aIsNot_b, tr_bl, tr_lst, isi_ii, isi_ib, isi_tt, aInt_int, aAbs_int, aLen_tup, aLen_lst, isN, sizeLine_eq, Nat.reduceLeDiff, Nat.reduceLT, ↓reduceIte, decide_true, decide_false, eq_self, if_true, Bool.false_eq_true, Bool.not_true, Bool.not_false, Bool.true_and, Bool.and_true, Bool.false_and, Bool.and_false, *])

theorem asg_ev {e : ME} {i : Nat} {ρ : Env2} {h h1 : AHeap} {d : AV} (q : e ρ h = .ok d h1) : mAsg e (gNm i) ρ h = .ok .nx (ρ.set i (some d)) h1 := by
  unfold mAsg
  rw [q]
  rfl
theorem drop_ev {e : ME} {ρ : Env2} {h h1 : AHeap} {d : AV} (q : e ρ h = .ok d h1) : mDrop e ρ h = .ok .nx ρ h1 := by
  unfold mDrop
  rw [q]
def tab (xs : List (List (Int × Int))) : Tab := xs.map fun x => (rowA x, x)
theorem tab_1 (xs : List (List (Int × Int))) : (tab xs).map (·.1) = xs.map rowA := by
  unfold tab
  rw [List.map_map] <;> rfl
theorem tab_2 (xs : List (List (Int × Int))) : (tab xs).map (·.2) = xs := by
  unfold tab
  rw [List.map_map]
  exact List.map_id' xs
theorem tab_v (xs : List (List (Int × Int))) : TabV (.lst (xs.map rowA)) (tab xs) := by
  refine ⟨?_, fun t ht => ?_⟩
  · rw [tab_1] <;> rfl
  · obtain ⟨x, _, rfl⟩ := List.mem_map.mp ht
    rfl
theorem tab_n {p : Int} {n w : Nat} {xs : List (List (Int × Int))} (h : ∀ x ∈ xs, RowN p n x ∧ x.length = w) : TabN p n w (tab xs) := fun t ht => by
  obtain ⟨x, hx, rfl⟩ := List.mem_map.mp ht
  exact h x hx
theorem ap2 (A B : Option MO) (l : List AV) (m : List AV) : ([A] ++ [some (MO.lst l)]) ++ [some (MO.lst m)] = [A, some (.lst l), some (.lst m)] := rfl
theorem prime_ev {n : Nat} {A : Option MO} (b : Bag n [A] 0) (hn : n < 900) : ∃ p A', F__law_prime [.ref 0] [A] = .ok (.int p) [A'] ∧ Fld p ∧ Bag (n + 1) [A'] 0 := by
  obtain ⟨v, A1, q1, h0, h1, b1⟩ := draw0 (r := []) (L := 6) b (by omega) (by decide) (by decide)
  obtain ⟨p, hp, hf⟩ : ∃ p : Int, (∀ h, aIx (.lst [.int 0, .int 0, .int 2, .int 3, .int 5, .int 7]) (.int v) h = some (.int p)) ∧ Fld p := by
    obtain ⟨k, rfl⟩ := Int.eq_ofNat_of_zero_le h0
    have : k = 0 ∨ k = 1 ∨ k = 2 ∨ k = 3 ∨ k = 4 ∨ k = 5 := by omega
    rcases this with rfl | rfl | rfl | rfl | rfl | rfl
    · exact ⟨0, fun _ => rfl, .inl rfl⟩
    · exact ⟨0, fun _ => rfl, .inl rfl⟩
    · exact ⟨2, fun _ => rfl, .inr (by decide +kernel)⟩
    · exact ⟨3, fun _ => rfl, .inr (by decide +kernel)⟩
    · exact ⟨5, fun _ => rfl, .inr (by decide +kernel)⟩
    · exact ⟨7, fun _ => rfl, .inr (by decide +kernel)⟩
  refine ⟨p, A1, ?_, hf, b1⟩
  simp only [aIx_l] at hp
  have hp' := hp []
  clear hp h0 h1 b b1 hf
  unfold F__law_prime m__law_prime
  walk_at "ev"

/-- what is drawn -/
structure Drawn (p : Int) (n : Nat) (w c f : Nat) (one two other : List (List (Int × Int))) (x : Int × Int) (wr row : List (Int × Int)) (T : Tab) (j : Nat) : Prop where
  w1 : 1 ≤ w
  w2 : w ≤ 5
  c1 : 1 ≤ c
  c2 : c ≤ 4
  f1 : 1 ≤ f
  f2 : f ≤ 4
  one_n : ∀ r ∈ one, RowN p 2 r ∧ r.length = w
  one_l : one.length = c
  two_n : ∀ r ∈ two, RowN p 2 r ∧ r.length = w
  two_l : two.length = c
  oth_n : ∀ r ∈ other, RowN p 2 r ∧ r.length = f
  oth_l : other.length = w
  x_n : Num p 2 x
  wr_n : RowN p 2 wr
  wr_l : wr.length = c
  row_n : RowN p 2 row
  row_l : row.length = w
  T_2 : T.map (·.2) = one
  T_f : ∀ t ∈ T, t.1 = .tup (t.2.map pA) ∨ t.1 = .lst (t.2.map pA)
  j1 : j < w
noncomputable def m2_law_tables_right : MS := mSeq (mAsg (mLc [20] (iR1 (mCons (mVar 5) (mNil))) (gNm 20) mYes e15__law_tables_right) (gNm 15)) (mSeq (mAsg (mCB aTuple (mCons (mLc [20] (iR1 (mCons (mVar 3) (mNil))) (gNm 20) mYes e13__law_tables_right) (mNil))) (gNm 16)) (mSeq (mAsg (mLstC (mCons (mCall 1 F_zero_row [] (mCons (mVar 3) (mNil))) (mCons (mCall 2 F_unit_row [] (mCons (mVar 3) (mCons (mVar 14) (mNil)))) (mCons (mCall 1 F_unit_table [] (mCons (mVar 3) (mNil))) (mCons (mCall 3 F_dot [] (mCons (mVar 2) (mCons (mOp aIx (mVar 6) (mC (.int 0))) (mCons (mVar 11) (mNil))))) (mNil)))))) (gNm 17)) (mSeq (mAsg (mLstC (mCons (mCall 1 F__law_zero [] (mCons (mVar 3) (mNil))) (mCons (mCall 2 F__law_unit [] (mCons (mVar 3) (mCons (mVar 14) (mNil)))) (mCons (mCB aTuple (mCons (mLc [20] (iR1 (mCons (mVar 3) (mNil))) (gNm 20) mYes e11__law_tables_right) (mNil))) (mCons (mCall 3 F__law_dot [] (mCons (mVar 1) (mCons (mOp aIx (mVar 6) (mC (.int 0))) (mCons (mVar 11) (mNil))))) (mNil)))))) (gNm 18)) (mSeq (mDrop (mExt (mVar 17) (mLst (mCons (mCall 3 F_row_plus [] (mCons (mVar 2) (mCons (mOp aIx (mVar 12) (mC (.int 0))) (mCons (mVar 11) (mNil))))) (mCons (mCall 3 F_row_minus [] (mCons (mVar 2) (mCons (mOp aIx (mVar 12) (mC (.int 0))) (mCons (mVar 11) (mNil))))) (mCons (mCall 3 F_row_times [] (mCons (mVar 2) (mCons (mVar 9) (mCons (mOp aIx (mVar 12) (mC (.int 0))) (mNil))))) (mNil))))))) (mSeq (mDrop (mApp (mVar 18) (mCB aTuple (mCons (mLc [20] (iR1 (mCons (mVar 3) (mNil))) (gNm 20) mYes e10__law_tables_right) (mNil))))) (mSeq (mDrop (mApp (mVar 18) (mCB aTuple (mCons (mLc [20] (iR1 (mCons (mVar 3) (mNil))) (gNm 20) mYes e9__law_tables_right) (mNil))))) (mSeq (mDrop (mApp (mVar 18) (mCB aTuple (mCons (mLc [22] (iSq (mOp aIx (mVar 6) (mC (.int 0)))) (gNm 22) mYes e8__law_tables_right) (mNil))))) (mSeq (mDrop (mExt (mVar 17) (mLst (mCons (mCall 3 F_table_row [] (mCons (mVar 2) (mCons (mVar 12) (mCons (mVar 11) (mNil))))) (mCons (mCall 4 F_row_table [.non] (mCons (mVar 2) (mCons (mVar 10) (mCons (mVar 12) (mNil))))) (mCons (mCall 4 F_row_table [] (mCons (mVar 2) (mCons (mTup (mNil)) (mCons (mTup (mNil)) (mCons (mVar 3) (mNil)))))) (mNil))))))) (mSeq (mDrop (mExt (mVar 18) (mLst (mCons (mCB aTuple (mCons (mLc [21] (iSq (mVar 6)) (gNm 21) mYes e7__law_tables_right) (mNil))) (mCons (mVar 16) (mCons (mCall 1 F__law_zero [] (mCons (mVar 3) (mNil))) (mNil))))))) (mSeq (mDrop (mExt (mVar 17) (mLst (mCons (mCall 4 F_row_table [] (mCons (mVar 2) (mCons (mVar 10) (mCons (mVar 12) (mCons (mVar 3) (mNil)))))) (mCons (mCall 3 F_table_table [] (mCons (mVar 2) (mCons (mVar 12) (mCons (mVar 8) (mNil))))) (mCons (mCall 1 F_turned [] (mCons (mVar 8) (mNil))) (mCons (mCall 1 F_turned [] (mCons (mVar 12) (mNil))) (mNil)))))))) (mSeq (mDrop (mExt (mVar 18) (mLst (mCons (mVar 16) (mCons (mCB aTuple (mCons (mLc [21] (iSq (mVar 6)) (gNm 21) mYes e6__law_tables_right) (mNil))) (mCons (mCB aTuple (mCons (mVar 15) (mNil))) (mNil))))))) (mSeq (mDrop (mApp (mVar 18) (mCB aTuple (mCons (mLc [20] (iR1 (mCons (mVar 3) (mNil))) (gNm 20) mYes e4__law_tables_right) (mNil))))) (mSeq (mDrop (mApp (mVar 17) (mCall 3 F_table_plus [] (mCons (mVar 2) (mCons (mVar 12) (mCons (mVar 7) (mNil))))))) (mSeq (mAsg (mLstC (mNil)) (gNm 19)) (mSeq (mFor (iR1 (mCons (mVar 4) (mNil))) (gNm 20) b2__law_tables_right) (mSeq (mDrop (mApp (mVar 18) (mCB aTuple (mCons (mVar 19) (mNil))))) (mSeq (mFrz 17) (mRet (mAndV (mCB (onL fAll) (mCons (mLc [24] (iSq (mVar 17)) (gNm 24) mYes e0__law_tables_right) (mNil))) (mAndV (mOp aEq (mVar 17) (mVar 18)) (mOp aEq (mCB aRepr (mCons (mVar 12) (mNil))) (mVar 13))))))))))))))))))))))
theorem drawn_ev {p : Int} (hp : Fld p) {n : Nat} {A : Option MO} (b : Bag n [A] 0) (hn : n < 300) : ∃ (w c f : Nat) (one two other : List (List (Int × Int))) (x : Int × Int) (wr row : List (Int × Int)) (T : Tab) (j : Nat) (S : Str) (A' : Option MO), Drawn p n w c f one two other x wr row T j ∧ (∀ h, aRepr [.lst (T.map (·.1))] h = some (.str S)) ∧ (∀ h, aEq (.str S) (.str S) h = some (.bl true)) ∧ Bag (n + 250) [A'] 0 ∧
    m__law_tables_right [some (.ref 0), some (.int p), some (fv p), none, none, none, none, none, none, none, none, none, none, none, none, none, none, none, none, none, none, none, none, none, none] [A] = m2_law_tables_right
      [some (.ref 0), some (.int p), some (fv p), some (.int (w : Int)), some (.int (c : Int)), some (.int (f : Int)), some (.lst (one.map rowA)), some (.lst (two.map rowA)), some (.lst (other.map rowA)), some (pA x), some (rowA wr), some (rowA row), some (.lst (T.map (·.1))), some (.str S), some (.int (j : Int)), none, none, none, none, none, none, none, none, none, none] [A'] := by
  obtain ⟨v1, A1, q1, v10, v11, b1⟩ := draw0 (r := []) (L := 5) b (by omega) (by first | decide | omega) (by first | decide | omega)
  obtain ⟨w, hw, w1, w2⟩ : ∃ w : Nat, 1 + v1 = (w : Int) ∧ 1 ≤ w ∧ w ≤ 5 := ⟨(1 + v1).toNat, by omega, by omega, by omega⟩
  obtain ⟨v2, A2, q2, v20, v21, b2⟩ := draw0 (r := []) (L := 4) b1 (by omega) (by first | decide | omega) (by first | decide | omega)
  obtain ⟨c, hc, c1, c2⟩ : ∃ c : Nat, 1 + v2 = (c : Int) ∧ 1 ≤ c ∧ c ≤ 4 := ⟨(1 + v2).toNat, by omega, by omega, by omega⟩
  obtain ⟨v3, A3, q3, v30, v31, b3⟩ := draw0 (r := []) (L := 4) b2 (by omega) (by first | decide | omega) (by first | decide | omega)
  obtain ⟨f, hf, f1, f2⟩ : ∃ f : Nat, 1 + v3 = (f : Int) ∧ 1 ≤ f ∧ f ≤ 4 := ⟨(1 + v3).toNat, by omega, by omega, by omega⟩
  have wc : 2 * w * c ≤ 40 := Nat.le_trans (Nat.mul_le_mul (show 2 * w ≤ 10 by omega) c2) (by decide)
  have fw : 2 * f * w ≤ 40 := Nat.le_trans (Nat.mul_le_mul (show 2 * f ≤ 8 by omega) w2) (by decide)
  obtain ⟨one, A4, q4, one_n, one_l, b4⟩ := rows_lc hp c w b3 (by omega) (by omega) (by omega) (own := [20]) (it := iR1 (mCons (mVar 4) (mNil))) (g := gNm 20) (e := e19__law_tables_right) (ρ := [some (.ref 0), some (.int p), some (fv p), some (.int (w : Int)), some (.int (c : Int)), some (.int (f : Int)), none, none, none, none, none, none, none, none, none, none, none, none, none, none, none, none, none, none, none]) (A := A3)
    (by rw [iR1_ev (j := (c : Int)) rfl (by omega) (by omega), Int.toNat_natCast, rng_map])
    (fun k H => ⟨_, rfl, fun d H' q => by
      unfold e19__law_tables_right
      generalize F__law_row = FR at q ⊢
      simp only [mMeth, mCall, mCons, mNil, mVar, mC, List.getElem?_cons_zero, List.getElem?_cons_succ, List.append_nil, List.cons_append, List.nil_append, List.length_cons, List.length_nil, Nat.reduceAdd, ↓reduceIte, wipeA, List.set_cons_succ, List.set_cons_zero, q]⟩)
  obtain ⟨two, A5, q5, two_n, two_l, b5⟩ := rows_lc hp c w b4 (by omega) (by omega) (by omega) (own := [20]) (it := iR1 (mCons (mVar 4) (mNil))) (g := gNm 20) (e := e18__law_tables_right) (ρ := [some (.ref 0), some (.int p), some (fv p), some (.int (w : Int)), some (.int (c : Int)), some (.int (f : Int)), some (.lst (one.map rowA)), none, none, none, none, none, none, none, none, none, none, none, none, none, none, none, none, none, none]) (A := A4)
    (by rw [iR1_ev (j := (c : Int)) rfl (by omega) (by omega), Int.toNat_natCast, rng_map])
    (fun k H => ⟨_, rfl, fun d H' q => by
      unfold e18__law_tables_right
      generalize F__law_row = FR at q ⊢
      simp only [mMeth, mCall, mCons, mNil, mVar, mC, List.getElem?_cons_zero, List.getElem?_cons_succ, List.append_nil, List.cons_append, List.nil_append, List.length_cons, List.length_nil, Nat.reduceAdd, ↓reduceIte, wipeA, List.set_cons_succ, List.set_cons_zero, q]⟩)
  obtain ⟨other, A6, q6, other_n, other_l, b6⟩ := rows_lc hp w f b5 (by omega) (by omega) (by omega) (own := [20]) (it := iR1 (mCons (mVar 3) (mNil))) (g := gNm 20) (e := e17__law_tables_right) (ρ := [some (.ref 0), some (.int p), some (fv p), some (.int (w : Int)), some (.int (c : Int)), some (.int (f : Int)), some (.lst (one.map rowA)), some (.lst (two.map rowA)), none, none, none, none, none, none, none, none, none, none, none, none, none, none, none, none, none]) (A := A5)
    (by rw [iR1_ev (j := (w : Int)) rfl (by omega) (by omega), Int.toNat_natCast, rng_map])
    (fun k H => ⟨_, rfl, fun d H' q => by
      unfold e17__law_tables_right
      generalize F__law_row = FR at q ⊢
      simp only [mMeth, mCall, mCons, mNil, mVar, mC, List.getElem?_cons_zero, List.getElem?_cons_succ, List.append_nil, List.cons_append, List.nil_append, List.length_cons, List.length_nil, Nat.reduceAdd, ↓reduceIte, wipeA, List.set_cons_succ, List.set_cons_zero, q]⟩)
  obtain ⟨x, A7, q7, x_n, b7⟩ := number_ev (r := []) hp b6 (by omega)
  obtain ⟨wr, A8, q8, wr_n, wr_l, b8⟩ := law_row_ev hp c b7 (by omega) (by omega) []
  obtain ⟨row, A9, q9, row_n, row_l, b9⟩ := law_row_ev hp w b8 (by omega) (by omega) []
  obtain ⟨T, A10, q10, T_2, T_f, b10⟩ := lists_lc (xs := one) b9 (by omega) (own := [21]) (it := iSq (mVar 6)) (g := gNm 21) (e := e16__law_tables_right) (ρ := [some (.ref 0), some (.int p), some (fv p), some (.int (w : Int)), some (.int (c : Int)), some (.int (f : Int)), some (.lst (one.map rowA)), some (.lst (two.map rowA)), some (.lst (other.map rowA)), some (pA x), some (rowA wr), some (rowA row), none, none, none, none, none, none, none, none, none, none, none, none, none]) rfl
    (fun x H => ⟨_, rfl, fun d H' q => by
      unfold e16__law_tables_right
      generalize F__law_list = FR at q ⊢
      simp only [mMeth, mCall, mCons, mNil, mVar, mC, List.getElem?_cons_zero, List.getElem?_cons_succ, List.append_nil, List.cons_append, List.nil_append, List.length_cons, List.length_nil, Nat.reduceAdd, ↓reduceIte, wipeA, List.set_cons_succ, List.set_cons_zero, q]⟩)
  have T_s : ∀ t ∈ T, (∀ x ∈ t.2, Small x) ∧ t.2.length ≤ 6 := fun t ht => by
    have m : t.2 ∈ one := by
      rw [← T_2]
      exact List.mem_map.mpr ⟨t, ht, rfl⟩
    exact ⟨fun x hx => num_small ((one_n _ m).1 x hx), by rw [(one_n _ m).2]; omega⟩
  have T_l : T.length = one.length := by rw [← T_2, List.length_map]
  obtain ⟨S, s1, s2⟩ := repr_ev T_f T_s (by omega)
  obtain ⟨vj, A11, q11, j0, j1, b11⟩ := draw0 (r := []) (L := (w : Int)) b10 (by omega) (by omega) (by omega)
  obtain ⟨j, rfl⟩ := Int.eq_ofNat_of_zero_le j0
  refine ⟨w, c, f, one, two, other, x, wr, row, T, j, S, A11, ⟨w1, w2, c1, c2, f1, f2, one_n, one_l, two_n, two_l, other_n, other_l, x_n, wr_n, wr_l, row_n, row_l, T_2, T_f, by omega⟩, s1, s2, b11.more (by omega), ?_⟩
  obtain ⟨W, hW⟩ : ∃ W : Int, (w : Int) = W := ⟨_, rfl⟩
  obtain ⟨C, hC⟩ : ∃ W : Int, (c : Int) = W := ⟨_, rfl⟩
  obtain ⟨F, hF⟩ : ∃ W : Int, (f : Int) = W := ⟨_, rfl⟩
  obtain ⟨J, hJ⟩ : ∃ W : Int, ((j : Nat) : Int) = W := ⟨_, rfl⟩
  have q8' : F__law_row [.ref 0, .int p, .int (c : Int)] [A7] = .ok (rowA wr) [A8] := q8
  have q9' : F__law_row [.ref 0, .int p, .int (w : Int)] [A8] = .ok (rowA row) [A9] := q9
  have q11' : F__law_draw [.ref 0, .int (w : Int)] [A10] = .ok (.int (j : Int)) [A11] := q11
  rw [hW] at hw
  rw [hC] at hc
  rw [hF] at hf
  simp only [hW, hC, hF] at q4 q5 q6 q10
  rw [hC] at q8'
  rw [hW] at q9'
  rw [hW, hJ] at q11'
  simp only [hW, hC, hF, hJ]
  unfold m__law_tables_right
  refine (seq_nx (asg_ev (d := .int W) (h1 := [A1]) ?_)).trans ?_
  · simp only [mOp, mMeth, mCall, mCons, mNil, mVar, mC, List.getElem?_cons_zero, List.getElem?_cons_succ, List.append_nil, List.cons_append, List.nil_append, List.length_cons, List.length_nil, Nat.reduceAdd, ↓reduceIte, q1, hw, aAdd_int]
  simp only [List.set_cons_zero, List.set_cons_succ]
  refine (seq_nx (asg_ev (d := .int C) (h1 := [A2]) ?_)).trans ?_
  · simp only [mOp, mMeth, mCall, mCons, mNil, mVar, mC, List.getElem?_cons_zero, List.getElem?_cons_succ, List.append_nil, List.cons_append, List.nil_append, List.length_cons, List.length_nil, Nat.reduceAdd, ↓reduceIte, q2, hc, aAdd_int]
  simp only [List.set_cons_zero, List.set_cons_succ]
  refine (seq_nx (asg_ev (d := .int F) (h1 := [A3]) ?_)).trans ?_
  · simp only [mOp, mMeth, mCall, mCons, mNil, mVar, mC, List.getElem?_cons_zero, List.getElem?_cons_succ, List.append_nil, List.cons_append, List.nil_append, List.length_cons, List.length_nil, Nat.reduceAdd, ↓reduceIte, q3, hf, aAdd_int]
  simp only [List.set_cons_zero, List.set_cons_succ]
  refine (seq_nx (asg_ev q4)).trans ?_
  simp only [List.set_cons_zero, List.set_cons_succ]
  refine (seq_nx (asg_ev q5)).trans ?_
  simp only [List.set_cons_zero, List.set_cons_succ]
  refine (seq_nx (asg_ev q6)).trans ?_
  simp only [List.set_cons_zero, List.set_cons_succ]
  refine (seq_nx (asg_ev (d := pA x) (h1 := [A7]) ?_)).trans ?_
  · simp only [mMeth, mCall, mCons, mNil, mVar, mC, List.getElem?_cons_zero, List.getElem?_cons_succ, List.append_nil, List.cons_append, List.nil_append, List.length_cons, List.length_nil, Nat.reduceAdd, ↓reduceIte, q7]
  simp only [List.set_cons_zero, List.set_cons_succ]
  refine (seq_nx (asg_ev (d := rowA wr) (h1 := [A8]) ?_)).trans ?_
  · simp only [mMeth, mCall, mCons, mNil, mVar, mC, List.getElem?_cons_zero, List.getElem?_cons_succ, List.append_nil, List.cons_append, List.nil_append, List.length_cons, List.length_nil, Nat.reduceAdd, ↓reduceIte, q8']
  simp only [List.set_cons_zero, List.set_cons_succ]
  refine (seq_nx (asg_ev (d := rowA row) (h1 := [A9]) ?_)).trans ?_
  · simp only [mMeth, mCall, mCons, mNil, mVar, mC, List.getElem?_cons_zero, List.getElem?_cons_succ, List.append_nil, List.cons_append, List.nil_append, List.length_cons, List.length_nil, Nat.reduceAdd, ↓reduceIte, q9']
  simp only [List.set_cons_zero, List.set_cons_succ]
  refine (seq_nx (asg_ev q10)).trans ?_
  simp only [List.set_cons_zero, List.set_cons_succ]
  refine (seq_nx (asg_ev (d := .str S) (h1 := [A10]) ?_)).trans ?_
  · simp only [mCB, mMeth, mCall, mCons, mNil, mVar, mC, List.getElem?_cons_zero, List.getElem?_cons_succ, List.append_nil, List.cons_append, List.nil_append, List.length_cons, List.length_nil, Nat.reduceAdd, ↓reduceIte, s1]
  simp only [List.set_cons_zero, List.set_cons_succ]
  refine (seq_nx (asg_ev (d := .int J) (h1 := [A11]) ?_)).trans ?_
  · simp only [mMeth, mCall, mCons, mNil, mVar, mC, List.getElem?_cons_zero, List.getElem?_cons_succ, List.append_nil, List.cons_append, List.nil_append, List.length_cons, List.length_nil, Nat.reduceAdd, ↓reduceIte, q11']
  simp only [List.set_cons_zero, List.set_cons_succ]
  rfl
end W

set_option maxRecDepth 100000
set_option maxHeartbeats 4000000
namespace W
open PySem PySem.Spec L2 Mi
local macro_rules | `(tactic| walk_at "ev") => `(tactic| simp only [noX, fnOf, mSeq, mNext, mAsg, gNm, mIfS, mTst, mTru, mOp, mUn, mVar, mC, mCons, mNil, mTup, mLst, mRet, mCall, mMeth, mCB, mIf, mAnd, mOr, mNot, mAndV, mOrV, mNotV, mNotT, mPar, mDrop, isLc, beq_self_eq_true, mLstC, ixN3_1, ixN3_2, pow18, pow30, pow6, List.set_set, gTp, gsCons, gsNil, mSetAt, mSetIx, mApp, mExt, mFrz, mChain, at_f0, List.map_cons, List.map_nil, List.length_cons, List.length_nil, List.cons_append, List.nil_append, List.append_nil, List.replicate_succ, List.replicate_zero, Nat.reduceAdd, Nat.reduceSub, List.getElem?_cons_zero, List.getElem?_cons_succ, List.set_cons_zero, List.set_cons_succ, aAt_0, aAt_1, aAt_2, aEq_int, aNe_int, aEq_t2, aNe_t2, aNe_ni, aNe_in, aNe_nn, aIx_t, aIx_l, aAdd_int, aSub_int, aMul_int, aMod_int, aFdiv_int, aCmp_int, aIs_n, aIsNot_n, aIsNot_b, tr_bl, tr_lst, isi_ii, isi_ib, isi_tt, aInt_int, aAbs_int, aLen_tup, aLen_lst, isN, sizeLine_eq, Nat.reduceLeDiff, Nat.reduceLT, ↓reduceIte, decide_true, decide_false, eq_self, if_true, Bool.false_eq_true, Bool.not_true, Bool.not_false, Bool.true_and, Bool.and_true, Bool.false_and, Bool.and_false, *])

def cols (xs : List (List (Int × Int))) (f : Nat) : List AV := (List.range f).map fun k => AV.tup ((col (tab xs) k).map pA)
def mixd (p : Int) (wr : List (Int × Int)) (one : List (List (Int × Int))) (w : Nat) : List (Int × Int) := (List.range w).map fun k => qdot p wr (col (tab one) k)
def plusd (p : Int) (a b : List (Int × Int)) (w : Nat) : List (Int × Int) := (List.range w).map fun k => qplus p (a.getD k (0, 1)) (b.getD k (0, 1))
def minusd (p : Int) (a b : List (Int × Int)) (w : Nat) : List (Int × Int) := (List.range w).map fun k => qminus p (a.getD k (0, 1)) (b.getD k (0, 1))
theorem tup_map {α : Type} (l : List α) (f : α → Int × Int) : l.map (fun x => pA (f x)) = (l.map f).map pA := by
  rw [List.map_map] <;> rfl
theorem aTup {l : List AV} {h : AHeap} : aTuple [.lst l] h = some (.tup l) := rfl
theorem col_num {p : Int} {n w : Nat} {xs : List (List (Int × Int))} (h : ∀ r ∈ xs, RowN p n r ∧ r.length = w) {k : Nat} (hk : k < w) : RowN p n (col (tab xs) k) := fun y hy => by
  unfold col tab at hy
  obtain ⟨t, ht, rfl⟩ := List.mem_map.mp hy
  obtain ⟨r, hr, rfl⟩ := List.mem_map.mp ht
  have l := (h r hr).2
  show Num p n (r.getD k (0, 1))
  rw [List.getD_eq_getElem?_getD, List.getElem?_eq_getElem (by omega)]
  exact (h r hr).1 _ (List.getElem_mem _)
theorem col_len (xs : List (List (Int × Int))) (k : Nat) : (col (tab xs) k).length = xs.length := by
  unfold col tab
  rw [List.length_map, List.length_map]
theorem col_map (xs : List (List (Int × Int))) (k : Nat) : col (tab xs) k = xs.map fun r => r.getD k (0, 1) := by
  unfold col tab
  rw [List.map_map] <;> rfl

section
variable {p : Int} {n w c f : Nat} {one two other : List (List (Int × Int))} {x : Int × Int} {wr row : List (Int × Int)} {T : Tab} {j : Nat} (D : Drawn p n w c f one two other x wr row T j)
include D
theorem Drawn.at_one {r : List (Int × Int)} (hr : r ∈ one) {k : Nat} (hk : k < w) (h : AHeap) : aIx (rowA r) (.int (k : Int)) h = some (pA (r.getD k (0, 1))) := row_at (v := rowA r) rfl (getD_at (by rw [(D.one_n r hr).2]; exact hk)) h
theorem Drawn.at_two {r : List (Int × Int)} (hr : r ∈ two) {k : Nat} (hk : k < w) (h : AHeap) : aIx (rowA r) (.int (k : Int)) h = some (pA (r.getD k (0, 1))) := row_at (v := rowA r) rfl (getD_at (by rw [(D.two_n r hr).2]; exact hk)) h
theorem Drawn.at_oth {r : List (Int × Int)} (hr : r ∈ other) {k : Nat} (hk : k < f) (h : AHeap) : aIx (rowA r) (.int (k : Int)) h = some (pA (r.getD k (0, 1))) := row_at (v := rowA r) rfl (getD_at (by rw [(D.oth_n r hr).2]; exact hk)) h
theorem Drawn.at_row {k : Nat} (hk : k < w) (h : AHeap) : aIx (rowA row) (.int (k : Int)) h = some (pA (row.getD k (0, 1))) := row_at (v := rowA row) rfl (getD_at (by rw [D.row_l]; exact hk)) h
theorem Drawn.rn {k : Nat} (hk : k < w) : Num p 2 (row.getD k (0, 1)) := by
  have l := D.row_l
  rw [List.getD_eq_getElem?_getD, List.getElem?_eq_getElem (by omega)]
  exact D.row_n _ (List.getElem_mem _)
theorem Drawn.on {r : List (Int × Int)} (hr : r ∈ one) {k : Nat} (hk : k < w) : Num p 2 (r.getD k (0, 1)) := by
  have l := (D.one_n r hr).2
  rw [List.getD_eq_getElem?_getD, List.getElem?_eq_getElem (by omega)]
  exact (D.one_n r hr).1 _ (List.getElem_mem _)
theorem Drawn.tn {r : List (Int × Int)} (hr : r ∈ two) {k : Nat} (hk : k < w) : Num p 2 (r.getD k (0, 1)) := by
  have l := (D.two_n r hr).2
  rw [List.getD_eq_getElem?_getD, List.getElem?_eq_getElem (by omega)]
  exact (D.two_n r hr).1 _ (List.getElem_mem _)
theorem Drawn.T_v : TabV (.lst (T.map (·.1))) T := ⟨rfl, fun t ht => by
  rcases D.T_f t ht with e | e <;> rw [e] <;> rfl⟩
theorem Drawn.T_n : TabN p 2 w T := fun t ht => D.one_n _ (by
  rw [← D.T_2]
  exact List.mem_map.mpr ⟨t, ht, rfl⟩)
theorem Drawn.T_l : T.length = c := by rw [← D.one_l, ← D.T_2, List.length_map]
theorem Drawn.T_w : Wide .non w T := by
  refine .inr ⟨rfl, ?_⟩
  have l := D.T_l
  have c1 := D.c1
  cases e : T with
  | nil =>
    rw [e] at l
    have : 0 = c := l
    omega
  | cons t l => exact ⟨t, l, rfl, (D.T_n t (by rw [e]; exact List.mem_cons_self)).2⟩
theorem Drawn.o_w : Wide .non f (tab other) := by
  refine .inr ⟨rfl, ?_⟩
  have l := D.oth_l
  have w1 := D.w1
  cases e : other with
  | nil =>
    rw [e] at l
    have : 0 = w := l
    omega
  | cons t l => exact ⟨(rowA t, t), tab l, rfl, (D.oth_n t (by rw [e]; exact List.mem_cons_self)).2⟩
end
theorem f12 {p : Int} {n w c f : Nat} {one two other : List (List (Int × Int))} {x : Int × Int} {wr row : List (Int × Int)} {T : Tab} {j : Nat} {S : Str} (D : Drawn p n w c f one two other x wr row T j) (hp : Fld p) (h : AHeap) : mLc [20] (iR1 (mCons (mVar 5) (mNil))) (gNm 20) mYes e15__law_tables_right [some (.ref 0), some (.int p), some (fv p), some (.int (w : Int)), some (.int (c : Int)), some (.int (f : Int)), some (.lst (one.map rowA)), some (.lst (two.map rowA)), some (.lst (other.map rowA)), some (pA x), some (rowA wr), some (rowA row), some (.lst (T.map (·.1))), some (.str S), some (.int (j : Int)), none, none, none, none, none, none, none, none, none, none] h = .ok (.lst (cols other f)) h := by
  have f2 := D.f2
  have ei : ∀ h, iR1 (mCons (mVar 5) (mNil)) [some (.ref 0), some (.int p), some (fv p), some (.int (w : Int)), some (.int (c : Int)), some (.int (f : Int)), some (.lst (one.map rowA)), some (.lst (two.map rowA)), some (.lst (other.map rowA)), some (pA x), some (rowA wr), some (rowA row), some (.lst (T.map (·.1))), some (.str S), some (.int (j : Int)), none, none, none, none, none, none, none, none, none, none] h = .ok ((List.range f).map fun (k : Nat) => AV.int (k : Int)) h := fun h => by
    rw [iR1_ev (j := (f : Int)) rfl (by omega) (by omega), Int.toNat_natCast, rng_map]
  refine lc_map (own := [20]) (g := gNm 20) (e := e15__law_tables_right) (k := fun (k : Nat) => AV.tup ((col (tab other) k).map pA)) (ei h) (fun k hk acc => ⟨_, rfl, ?_⟩) (fun _ _ => clsd_tp _) (by rw [List.length_range]; exact small_len (by omega))
  have kf := List.mem_range.mp hk
  have lc := lc_map (own := [21]) (it := iSq (mVar 8)) (g := gNm 21) (e := e14__law_tables_right) (k := fun r => pA (r.getD k (0, 1))) (l := other) (f := rowA) (h := h ++ [some (.lst acc)]) (h1 := h ++ [some (.lst acc)]) (ρ := [some (.ref 0), some (.int p), some (fv p), some (.int (w : Int)), some (.int (c : Int)), some (.int (f : Int)), some (.lst (one.map rowA)), some (.lst (two.map rowA)), some (.lst (other.map rowA)), some (pA x), some (rowA wr), some (rowA row), some (.lst (T.map (·.1))), some (.str S), some (.int (j : Int)), none, none, none, none, none, some (.int (k : Int)), none, none, none, none]) rfl (fun r hr acc2 => ⟨_, rfl, by
    have q := D.at_oth hr kf
    unfold e14__law_tables_right
    simp only [mOp, mVar, wipeA, List.set_cons_succ, List.set_cons_zero, List.getElem?_cons_zero, List.getElem?_cons_succ, q]⟩) (fun _ _ => rfl) (small_len (by have := D.oth_l; have := D.w2; omega))
  rw [tup_map, ← col_map] at lc
  unfold e15__law_tables_right
  generalize mLc [21] (iSq (mVar 8)) (gNm 21) mYes e14__law_tables_right = M at lc ⊢
  simp only [mCB, mCons, mNil, wipeA, List.set_cons_succ, List.set_cons_zero, lc, aTup]

theorem f13 {p : Int} {n w c f : Nat} {one two other : List (List (Int × Int))} {x : Int × Int} {wr row : List (Int × Int)} {T : Tab} {j : Nat} {S : Str} (D : Drawn p n w c f one two other x wr row T j) (hp : Fld p) (h : AHeap) : mLc [20] (iR1 (mCons (mVar 3) (mNil))) (gNm 20) mYes e13__law_tables_right [some (.ref 0), some (.int p), some (fv p), some (.int (w : Int)), some (.int (c : Int)), some (.int (f : Int)), some (.lst (one.map rowA)), some (.lst (two.map rowA)), some (.lst (other.map rowA)), some (pA x), some (rowA wr), some (rowA row), some (.lst (T.map (·.1))), some (.str S), some (.int (j : Int)), some (.lst (cols other f)), none, none, none, none, none, none, none, none, none] h = .ok (.lst ((mixd p wr one w).map pA)) h := by
  have w2 := D.w2
  have ei : ∀ h, iR1 (mCons (mVar 3) (mNil)) [some (.ref 0), some (.int p), some (fv p), some (.int (w : Int)), some (.int (c : Int)), some (.int (f : Int)), some (.lst (one.map rowA)), some (.lst (two.map rowA)), some (.lst (other.map rowA)), some (pA x), some (rowA wr), some (rowA row), some (.lst (T.map (·.1))), some (.str S), some (.int (j : Int)), some (.lst (cols other f)), none, none, none, none, none, none, none, none, none] h = .ok ((List.range w).map fun (k : Nat) => AV.int (k : Int)) h := fun h => by
    rw [iR1_ev (j := (w : Int)) rfl (by omega) (by omega), Int.toNat_natCast, rng_map]
  have key := lc_map (own := [20]) (g := gNm 20) (e := e13__law_tables_right) (k := fun (k : Nat) => pA (qdot p wr (col (tab one) k))) (ei h) (fun k hk acc => ⟨_, rfl, by
    have kf := List.mem_range.mp hk
    have lc := lc_map (own := [21]) (it := iSq (mVar 6)) (g := gNm 21) (e := e12__law_tables_right) (k := fun r => pA (r.getD k (0, 1))) (l := one) (f := rowA) (h := h ++ [some (.lst acc)]) (h1 := h ++ [some (.lst acc)]) (ρ := [some (.ref 0), some (.int p), some (fv p), some (.int (w : Int)), some (.int (c : Int)), some (.int (f : Int)), some (.lst (one.map rowA)), some (.lst (two.map rowA)), some (.lst (other.map rowA)), some (pA x), some (rowA wr), some (rowA row), some (.lst (T.map (·.1))), some (.str S), some (.int (j : Int)), some (.lst (cols other f)), none, none, none, none, some (.int (k : Int)), none, none, none, none]) rfl (fun r hr acc2 => ⟨_, rfl, by
      have q := D.at_one hr kf
      unfold e12__law_tables_right
      simp only [mOp, mVar, wipeA, List.set_cons_succ, List.set_cons_zero, List.getElem?_cons_zero, List.getElem?_cons_succ, q]⟩) (fun _ _ => rfl) (small_len (by have := D.one_l; have := D.c2; omega))
    rw [tup_map, ← col_map] at lc
    have q := fun h => law_dot_ev (u := rowA wr) (v := .lst ((col (tab one) k).map pA)) hp rfl rfl D.wr_n (col_num D.one_n kf) (by rw [col_len, D.wr_l, D.one_l]; exact Nat.le_refl _) (by have := D.wr_l; have := D.c2; omega) h
    unfold e13__law_tables_right
    generalize mLc [21] (iSq (mVar 6)) (gNm 21) mYes e12__law_tables_right = M at lc ⊢
    generalize F__law_dot = FD at q ⊢
    simp only [mMeth, mCall, mCons, mNil, mVar, mC, List.getElem?_cons_zero, List.getElem?_cons_succ, List.append_nil, List.cons_append, List.nil_append, List.length_cons, List.length_nil, Nat.reduceAdd, ↓reduceIte, wipeA, List.set_cons_succ, List.set_cons_zero, lc, q]⟩) (fun _ _ => rfl) (by rw [List.length_range]; exact small_len (by omega))
  rw [tup_map] at key
  exact key

theorem f15 {p : Int} {n w c f : Nat} {one two other : List (List (Int × Int))} {x : Int × Int} {wr row : List (Int × Int)} {T : Tab} {j : Nat} {S : Str} (D : Drawn p n w c f one two other x wr row T j)  (h : AHeap) : mLc [20] (iR1 (mCons (mVar 3) (mNil))) (gNm 20) mYes e11__law_tables_right [some (.ref 0), some (.int p), some (fv p), some (.int (w : Int)), some (.int (c : Int)), some (.int (f : Int)), some (.lst (one.map rowA)), some (.lst (two.map rowA)), some (.lst (other.map rowA)), some (pA x), some (rowA wr), some (rowA row), some (.lst (T.map (·.1))), some (.str S), some (.int (j : Int)), some (.lst (cols other f)), some (.tup ((mixd p wr one w).map pA)), some (.ref 1), none, none, none, none, none, none, none] h = .ok (.lst ((List.range w).map fun k => rowA (urow w k))) h := by
  have w2 := D.w2
  have ei : ∀ h, iR1 (mCons (mVar 3) (mNil)) [some (.ref 0), some (.int p), some (fv p), some (.int (w : Int)), some (.int (c : Int)), some (.int (f : Int)), some (.lst (one.map rowA)), some (.lst (two.map rowA)), some (.lst (other.map rowA)), some (pA x), some (rowA wr), some (rowA row), some (.lst (T.map (·.1))), some (.str S), some (.int (j : Int)), some (.lst (cols other f)), some (.tup ((mixd p wr one w).map pA)), some (.ref 1), none, none, none, none, none, none, none] h = .ok ((List.range w).map fun (k : Nat) => AV.int (k : Int)) h := fun h => by
    rw [iR1_ev (j := (w : Int)) rfl (by omega) (by omega), Int.toNat_natCast, rng_map]
  refine lc_map (own := [20]) (g := gNm 20) (e := e11__law_tables_right) (k := fun (k : Nat) => rowA (urow w k)) (ei h) (fun k hk acc => ⟨_, rfl, ?_⟩) (fun _ _ => rowA_clsd _) (by rw [List.length_range]; exact small_len (by omega))
  have q : ∀ h, F__law_unit [.int (w : Int), .int (k : Int)] h = .ok (rowA (urow w k)) h := fun h => law_unit_ev w k (by omega) h
  unfold e11__law_tables_right
  generalize F__law_unit = FU at q ⊢
  simp only [mMeth, mCall, mCons, mNil, mVar, mC, List.getElem?_cons_zero, List.getElem?_cons_succ, List.append_nil, List.cons_append, List.nil_append, List.length_cons, List.length_nil, Nat.reduceAdd, ↓reduceIte, wipeA, List.set_cons_succ, List.set_cons_zero, q]

theorem f17 {p : Int} {n w c f : Nat} {one two other : List (List (Int × Int))} {x : Int × Int} {wr row : List (Int × Int)} {T : Tab} {j : Nat} {S : Str} (D : Drawn p n w c f one two other x wr row T j) {x0 : List (Int × Int)} {ol : List (List (Int × Int))} (e0 : one = x0 :: ol) (h : AHeap) : mLc [20] (iR1 (mCons (mVar 3) (mNil))) (gNm 20) mYes e10__law_tables_right [some (.ref 0), some (.int p), some (fv p), some (.int (w : Int)), some (.int (c : Int)), some (.int (f : Int)), some (.lst (one.map rowA)), some (.lst (two.map rowA)), some (.lst (other.map rowA)), some (pA x), some (rowA wr), some (rowA row), some (.lst (T.map (·.1))), some (.str S), some (.int (j : Int)), some (.lst (cols other f)), some (.tup ((mixd p wr one w).map pA)), some (.ref 1), some (.ref 2), none, none, none, none, none, none] h = .ok (.lst ((plusd p x0 row w).map pA)) h := by
  have w2 := D.w2
  have m0 : x0 ∈ one := by rw [e0]; exact List.mem_cons_self
  have a0 : ∀ h, aIx (.lst (one.map rowA)) (.int 0) h = some (rowA x0) := fun h => aIx_frz (k := 0) (v := .lst (one.map rowA)) rfl (by rw [e0] <;> rfl) h
  have ei : ∀ h, iR1 (mCons (mVar 3) (mNil)) [some (.ref 0), some (.int p), some (fv p), some (.int (w : Int)), some (.int (c : Int)), some (.int (f : Int)), some (.lst (one.map rowA)), some (.lst (two.map rowA)), some (.lst (other.map rowA)), some (pA x), some (rowA wr), some (rowA row), some (.lst (T.map (·.1))), some (.str S), some (.int (j : Int)), some (.lst (cols other f)), some (.tup ((mixd p wr one w).map pA)), some (.ref 1), some (.ref 2), none, none, none, none, none, none] h = .ok ((List.range w).map fun (k : Nat) => AV.int (k : Int)) h := fun h => by
    rw [iR1_ev (j := (w : Int)) rfl (by omega) (by omega), Int.toNat_natCast, rng_map]
  have key := lc_map (own := [20]) (g := gNm 20) (e := e10__law_tables_right) (k := fun (k : Nat) => pA (qplus p (x0.getD k (0, 1)) (row.getD k (0, 1)))) (ei h) (fun k hk acc => ⟨_, rfl, by
    have kf := List.mem_range.mp hk
    have g1 := D.at_one m0 kf
    have g2 := D.at_row kf
    have q := fun h => lplus_ev (D.on m0 kf) (D.rn kf) (by omega) h
    unfold e10__law_tables_right
    generalize F__law_plus = FF at q ⊢
    simp only [mOp, mMeth, mCall, mCons, mNil, mVar, mC, List.getElem?_cons_zero, List.getElem?_cons_succ, List.append_nil, List.cons_append, List.nil_append, List.length_cons, List.length_nil, Nat.reduceAdd, ↓reduceIte, wipeA, List.set_cons_succ, List.set_cons_zero, a0, g1, g2, q]⟩) (fun _ _ => rfl) (by rw [List.length_range]; exact small_len (by omega))
  rw [tup_map (List.range w) (fun (k : Nat) => qplus p (x0.getD k (0, 1)) (row.getD k (0, 1)))] at key
  exact key

theorem f18 {p : Int} {n w c f : Nat} {one two other : List (List (Int × Int))} {x : Int × Int} {wr row : List (Int × Int)} {T : Tab} {j : Nat} {S : Str} (D : Drawn p n w c f one two other x wr row T j) {x0 : List (Int × Int)} {ol : List (List (Int × Int))} (e0 : one = x0 :: ol) (h : AHeap) : mLc [20] (iR1 (mCons (mVar 3) (mNil))) (gNm 20) mYes e9__law_tables_right [some (.ref 0), some (.int p), some (fv p), some (.int (w : Int)), some (.int (c : Int)), some (.int (f : Int)), some (.lst (one.map rowA)), some (.lst (two.map rowA)), some (.lst (other.map rowA)), some (pA x), some (rowA wr), some (rowA row), some (.lst (T.map (·.1))), some (.str S), some (.int (j : Int)), some (.lst (cols other f)), some (.tup ((mixd p wr one w).map pA)), some (.ref 1), some (.ref 2), none, none, none, none, none, none] h = .ok (.lst ((minusd p x0 row w).map pA)) h := by
  have w2 := D.w2
  have m0 : x0 ∈ one := by rw [e0]; exact List.mem_cons_self
  have a0 : ∀ h, aIx (.lst (one.map rowA)) (.int 0) h = some (rowA x0) := fun h => aIx_frz (k := 0) (v := .lst (one.map rowA)) rfl (by rw [e0] <;> rfl) h
  have ei : ∀ h, iR1 (mCons (mVar 3) (mNil)) [some (.ref 0), some (.int p), some (fv p), some (.int (w : Int)), some (.int (c : Int)), some (.int (f : Int)), some (.lst (one.map rowA)), some (.lst (two.map rowA)), some (.lst (other.map rowA)), some (pA x), some (rowA wr), some (rowA row), some (.lst (T.map (·.1))), some (.str S), some (.int (j : Int)), some (.lst (cols other f)), some (.tup ((mixd p wr one w).map pA)), some (.ref 1), some (.ref 2), none, none, none, none, none, none] h = .ok ((List.range w).map fun (k : Nat) => AV.int (k : Int)) h := fun h => by
    rw [iR1_ev (j := (w : Int)) rfl (by omega) (by omega), Int.toNat_natCast, rng_map]
  have key := lc_map (own := [20]) (g := gNm 20) (e := e9__law_tables_right) (k := fun (k : Nat) => pA (qminus p (x0.getD k (0, 1)) (row.getD k (0, 1)))) (ei h) (fun k hk acc => ⟨_, rfl, by
    have kf := List.mem_range.mp hk
    have g1 := D.at_one m0 kf
    have g2 := D.at_row kf
    have q := fun h => lminus_ev (D.on m0 kf) (D.rn kf) (by omega) h
    unfold e9__law_tables_right
    generalize F__law_minus = FF at q ⊢
    simp only [mOp, mMeth, mCall, mCons, mNil, mVar, mC, List.getElem?_cons_zero, List.getElem?_cons_succ, List.append_nil, List.cons_append, List.nil_append, List.length_cons, List.length_nil, Nat.reduceAdd, ↓reduceIte, wipeA, List.set_cons_succ, List.set_cons_zero, a0, g1, g2, q]⟩) (fun _ _ => rfl) (by rw [List.length_range]; exact small_len (by omega))
  rw [tup_map (List.range w) (fun (k : Nat) => qminus p (x0.getD k (0, 1)) (row.getD k (0, 1)))] at key
  exact key

theorem f19 {p : Int} {n w c f : Nat} {one two other : List (List (Int × Int))} {x : Int × Int} {wr row : List (Int × Int)} {T : Tab} {j : Nat} {S : Str} (D : Drawn p n w c f one two other x wr row T j) {x0 : List (Int × Int)} {ol : List (List (Int × Int))} (e0 : one = x0 :: ol) (h : AHeap) : mLc [22] (iSq (mOp aIx (mVar 6) (mC (.int 0)))) (gNm 22) mYes e8__law_tables_right [some (.ref 0), some (.int p), some (fv p), some (.int (w : Int)), some (.int (c : Int)), some (.int (f : Int)), some (.lst (one.map rowA)), some (.lst (two.map rowA)), some (.lst (other.map rowA)), some (pA x), some (rowA wr), some (rowA row), some (.lst (T.map (·.1))), some (.str S), some (.int (j : Int)), some (.lst (cols other f)), some (.tup ((mixd p wr one w).map pA)), some (.ref 1), some (.ref 2), none, none, none, none, none, none] h = .ok (.lst ((x0.map fun y => qtimes p x y).map pA)) h := by
  have m0 : x0 ∈ one := by rw [e0]; exact List.mem_cons_self
  have a0 : ∀ h, aIx (.lst (one.map rowA)) (.int 0) h = some (rowA x0) := fun h => aIx_frz (k := 0) (v := .lst (one.map rowA)) rfl (by rw [e0] <;> rfl) h
  have ei : iSq (mOp aIx (mVar 6) (mC (.int 0))) [some (.ref 0), some (.int p), some (fv p), some (.int (w : Int)), some (.int (c : Int)), some (.int (f : Int)), some (.lst (one.map rowA)), some (.lst (two.map rowA)), some (.lst (other.map rowA)), some (pA x), some (rowA wr), some (rowA row), some (.lst (T.map (·.1))), some (.str S), some (.int (j : Int)), some (.lst (cols other f)), some (.tup ((mixd p wr one w).map pA)), some (.ref 1), some (.ref 2), none, none, none, none, none, none] h = .ok (x0.map pA) h := iSq_ev (u := rowA x0) (by
    simp only [mOp, mVar, mC, List.getElem?_cons_zero, List.getElem?_cons_succ, a0]) rfl
  have key := lc_map (own := [22]) (g := gNm 22) (e := e8__law_tables_right) (k := fun y => pA (qtimes p x y)) ei (fun y hy acc => ⟨_, rfl, by
    have q := fun h => ltimes_ev D.x_n ((D.one_n x0 m0).1 y hy) (by omega) h
    unfold e8__law_tables_right
    generalize F__law_times = FF at q ⊢
    simp only [mMeth, mCall, mCons, mNil, mVar, mC, List.getElem?_cons_zero, List.getElem?_cons_succ, List.append_nil, List.cons_append, List.nil_append, List.length_cons, List.length_nil, Nat.reduceAdd, ↓reduceIte, wipeA, List.set_cons_succ, List.set_cons_zero, q]⟩) (fun _ _ => rfl) (small_len (by have := (D.one_n x0 m0).2; have := D.w2; omega))
  rw [tup_map x0 (fun y => qtimes p x y)] at key
  exact key

theorem f21 {p : Int} {n w c f : Nat} {one two other : List (List (Int × Int))} {x : Int × Int} {wr row : List (Int × Int)} {T : Tab} {j : Nat} {S : Str} (D : Drawn p n w c f one two other x wr row T j) (hp : Fld p) (h : AHeap) : mLc [21] (iSq (mVar 6)) (gNm 21) mYes e7__law_tables_right [some (.ref 0), some (.int p), some (fv p), some (.int (w : Int)), some (.int (c : Int)), some (.int (f : Int)), some (.lst (one.map rowA)), some (.lst (two.map rowA)), some (.lst (other.map rowA)), some (pA x), some (rowA wr), some (rowA row), some (.lst (T.map (·.1))), some (.str S), some (.int (j : Int)), some (.lst (cols other f)), some (.tup ((mixd p wr one w).map pA)), some (.ref 1), some (.ref 2), none, none, none, none, none, none] h = .ok (.lst ((one.map fun r => qdot p r row).map pA)) h := by
  have key := lc_map (own := [21]) (it := iSq (mVar 6)) (g := gNm 21) (e := e7__law_tables_right) (k := fun r => pA (qdot p r row)) (l := one) (f := rowA) (h := h) (h1 := h) (ρ := [some (.ref 0), some (.int p), some (fv p), some (.int (w : Int)), some (.int (c : Int)), some (.int (f : Int)), some (.lst (one.map rowA)), some (.lst (two.map rowA)), some (.lst (other.map rowA)), some (pA x), some (rowA wr), some (rowA row), some (.lst (T.map (·.1))), some (.str S), some (.int (j : Int)), some (.lst (cols other f)), some (.tup ((mixd p wr one w).map pA)), some (.ref 1), some (.ref 2), none, none, none, none, none, none]) rfl (fun r hr acc => ⟨_, rfl, by
    have q := fun h => law_dot_ev (u := rowA r) (v := rowA row) hp rfl rfl (D.one_n r hr).1 D.row_n (by rw [(D.one_n r hr).2, D.row_l]; exact Nat.le_refl _) (by have := (D.one_n r hr).2; have := D.w2; omega) h
    unfold e7__law_tables_right
    generalize F__law_dot = FF at q ⊢
    simp only [mMeth, mCall, mCons, mNil, mVar, mC, List.getElem?_cons_zero, List.getElem?_cons_succ, List.append_nil, List.cons_append, List.nil_append, List.length_cons, List.length_nil, Nat.reduceAdd, ↓reduceIte, wipeA, List.set_cons_succ, List.set_cons_zero, q]⟩) (fun _ _ => rfl) (small_len (by have := D.one_l; have := D.c2; omega))
  rw [tup_map one (fun r => qdot p r row)] at key
  exact key

theorem f23 {p : Int} {n w c f : Nat} {one two other : List (List (Int × Int))} {x : Int × Int} {wr row : List (Int × Int)} {T : Tab} {j : Nat} {S : Str} (D : Drawn p n w c f one two other x wr row T j) (hp : Fld p) (h : AHeap) : mLc [21] (iSq (mVar 6)) (gNm 21) mYes e6__law_tables_right [some (.ref 0), some (.int p), some (fv p), some (.int (w : Int)), some (.int (c : Int)), some (.int (f : Int)), some (.lst (one.map rowA)), some (.lst (two.map rowA)), some (.lst (other.map rowA)), some (pA x), some (rowA wr), some (rowA row), some (.lst (T.map (·.1))), some (.str S), some (.int (j : Int)), some (.lst (cols other f)), some (.tup ((mixd p wr one w).map pA)), some (.ref 1), some (.ref 2), none, none, none, none, none, none] h = .ok (.lst (one.map fun r => rowA (mixd p r other f))) h := by
  have f2 := D.f2
  refine lc_map (own := [21]) (it := iSq (mVar 6)) (g := gNm 21) (e := e6__law_tables_right) (k := fun r => rowA (mixd p r other f)) (l := one) (f := rowA) (h := h) (h1 := h) (ρ := [some (.ref 0), some (.int p), some (fv p), some (.int (w : Int)), some (.int (c : Int)), some (.int (f : Int)), some (.lst (one.map rowA)), some (.lst (two.map rowA)), some (.lst (other.map rowA)), some (pA x), some (rowA wr), some (rowA row), some (.lst (T.map (·.1))), some (.str S), some (.int (j : Int)), some (.lst (cols other f)), some (.tup ((mixd p wr one w).map pA)), some (.ref 1), some (.ref 2), none, none, none, none, none, none]) rfl (fun r hr acc => ⟨_, rfl, ?_⟩) (fun _ _ => rowA_clsd _) (small_len (by have := D.one_l; have := D.c2; omega))
  have lc := lc_map (own := [22]) (it := iSq (mVar 15)) (g := gNm 22) (e := e5__law_tables_right) (k := fun (k : Nat) => pA (qdot p r (col (tab other) k))) (l := List.range f) (f := fun k => AV.tup ((col (tab other) k).map pA)) (h := h ++ [some (.lst acc)]) (h1 := h ++ [some (.lst acc)]) (ρ := [some (.ref 0), some (.int p), some (fv p), some (.int (w : Int)), some (.int (c : Int)), some (.int (f : Int)), some (.lst (one.map rowA)), some (.lst (two.map rowA)), some (.lst (other.map rowA)), some (pA x), some (rowA wr), some (rowA row), some (.lst (T.map (·.1))), some (.str S), some (.int (j : Int)), some (.lst (cols other f)), some (.tup ((mixd p wr one w).map pA)), some (.ref 1), some (.ref 2), none, none, some (rowA r), none, none, none]) rfl (fun k hk acc2 => ⟨_, rfl, by
    have kf := List.mem_range.mp hk
    have q := fun h => law_dot_ev (u := rowA r) (v := .tup ((col (tab other) k).map pA)) hp rfl rfl (D.one_n r hr).1 (col_num D.oth_n kf) (by rw [col_len, (D.one_n r hr).2, D.oth_l]; exact Nat.le_refl _) (by have := (D.one_n r hr).2; have := D.w2; omega) h
    unfold e5__law_tables_right
    generalize F__law_dot = FF at q ⊢
    simp only [mMeth, mCall, mCons, mNil, mVar, mC, List.getElem?_cons_zero, List.getElem?_cons_succ, List.append_nil, List.cons_append, List.nil_append, List.length_cons, List.length_nil, Nat.reduceAdd, ↓reduceIte, wipeA, List.set_cons_succ, List.set_cons_zero, q]⟩) (fun _ _ => rfl) (by rw [List.length_range]; exact small_len (by omega))
  rw [tup_map (List.range f) (fun (k : Nat) => qdot p r (col (tab other) k))] at lc
  unfold e6__law_tables_right
  generalize mLc [22] (iSq (mVar 15)) (gNm 22) mYes e5__law_tables_right = M at lc ⊢
  simp only [mCB, mCons, mNil, wipeA, List.set_cons_succ, List.set_cons_zero, lc, aTup] <;> rfl

theorem f24 {p : Int} {n w c f : Nat} {one two other : List (List (Int × Int))} {x : Int × Int} {wr row : List (Int × Int)} {T : Tab} {j : Nat} {S : Str} (D : Drawn p n w c f one two other x wr row T j)  (h : AHeap) : mLc [20] (iR1 (mCons (mVar 3) (mNil))) (gNm 20) mYes e4__law_tables_right [some (.ref 0), some (.int p), some (fv p), some (.int (w : Int)), some (.int (c : Int)), some (.int (f : Int)), some (.lst (one.map rowA)), some (.lst (two.map rowA)), some (.lst (other.map rowA)), some (pA x), some (rowA wr), some (rowA row), some (.lst (T.map (·.1))), some (.str S), some (.int (j : Int)), some (.lst (cols other f)), some (.tup ((mixd p wr one w).map pA)), some (.ref 1), some (.ref 2), none, none, none, none, none, none] h = .ok (.lst (cols one w)) h := by
  have w2 := D.w2
  have ei : ∀ h, iR1 (mCons (mVar 3) (mNil)) [some (.ref 0), some (.int p), some (fv p), some (.int (w : Int)), some (.int (c : Int)), some (.int (f : Int)), some (.lst (one.map rowA)), some (.lst (two.map rowA)), some (.lst (other.map rowA)), some (pA x), some (rowA wr), some (rowA row), some (.lst (T.map (·.1))), some (.str S), some (.int (j : Int)), some (.lst (cols other f)), some (.tup ((mixd p wr one w).map pA)), some (.ref 1), some (.ref 2), none, none, none, none, none, none] h = .ok ((List.range w).map fun (k : Nat) => AV.int (k : Int)) h := fun h => by
    rw [iR1_ev (j := (w : Int)) rfl (by omega) (by omega), Int.toNat_natCast, rng_map]
  refine lc_map (own := [20]) (g := gNm 20) (e := e4__law_tables_right) (k := fun (k : Nat) => AV.tup ((col (tab one) k).map pA)) (ei h) (fun k hk acc => ⟨_, rfl, ?_⟩) (fun _ _ => clsd_tp _) (by rw [List.length_range]; exact small_len (by omega))
  have kf := List.mem_range.mp hk
  have lc := lc_map (own := [21]) (it := iSq (mVar 6)) (g := gNm 21) (e := e3__law_tables_right) (k := fun r => pA (r.getD k (0, 1))) (l := one) (f := rowA) (h := h ++ [some (.lst acc)]) (h1 := h ++ [some (.lst acc)]) (ρ := [some (.ref 0), some (.int p), some (fv p), some (.int (w : Int)), some (.int (c : Int)), some (.int (f : Int)), some (.lst (one.map rowA)), some (.lst (two.map rowA)), some (.lst (other.map rowA)), some (pA x), some (rowA wr), some (rowA row), some (.lst (T.map (·.1))), some (.str S), some (.int (j : Int)), some (.lst (cols other f)), some (.tup ((mixd p wr one w).map pA)), some (.ref 1), some (.ref 2), none, some (.int (k : Int)), none, none, none, none]) rfl (fun r hr acc2 => ⟨_, rfl, by
    have q := D.at_one hr kf
    unfold e3__law_tables_right
    simp only [mOp, mVar, wipeA, List.set_cons_succ, List.set_cons_zero, List.getElem?_cons_zero, List.getElem?_cons_succ, q]⟩) (fun _ _ => rfl) (small_len (by have := D.one_l; have := D.c2; omega))
  rw [tup_map one (fun r => r.getD k (0, 1)), ← col_map] at lc
  unfold e4__law_tables_right
  generalize mLc [21] (iSq (mVar 6)) (gNm 21) mYes e3__law_tables_right = M at lc ⊢
  simp only [mCB, mCons, mNil, wipeA, List.set_cons_succ, List.set_cons_zero, lc, aTup]

end W

set_option maxRecDepth 100000
set_option maxHeartbeats 4000000
namespace W
open PySem PySem.Spec L2 Mi
def addd (p : Int) (one two : List (List (Int × Int))) (w c : Nat) : List AV := (List.range c).map fun k => rowA (plusd p (one.getD k []) (two.getD k []) w)
theorem unit_table_ev (w : Nat) (hw : w ≤ 1000) (h : AHeap) : F_unit_table [.int (w : Int)] h = .ok (.tup ((List.range w).map fun k => rowA (urow w k))) h := by
  have ei : iR1 (mCons (mVar 0) (mNil)) [some (.int (w : Int)), none] h = .ok ((List.range w).map fun (k : Nat) => AV.int (k : Int)) h := by
    rw [iR1_ev (j := (w : Int)) rfl (by omega) (by omega), Int.toNat_natCast, rng_map]
  have lc := lc_map (own := [1]) (g := gNm 1) (e := e0_unit_table) (k := fun (k : Nat) => rowA (urow w k)) ei (fun k hk acc => ⟨_, rfl, by
    have q : ∀ h, F_unit_row [.int (w : Int), .int (k : Int)] h = .ok (rowA (urow w k)) h := fun h => unit_row_ev w k hw h
    unfold e0_unit_table
    generalize F_unit_row = FU at q ⊢
    simp only [mMeth, mCall, mCons, mNil, mVar, mC, List.getElem?_cons_zero, List.getElem?_cons_succ, List.append_nil, List.length_cons, List.length_nil, Nat.reduceAdd, ↓reduceIte, wipeA, List.set_cons_succ, List.set_cons_zero, q]⟩) (fun _ _ => rowA_clsd _) (by rw [List.length_range]; exact small_len hw)
  exact rt_tup lc
theorem rowT_eq {p : Int} {n m w : Nat} {r : List (Int × Int)} {T : Tab} {xs : List (List (Int × Int))} (hp : Fld p) (hr : RowN p n r) (hN : TabN p m w T) (e : T.map (·.2) = xs) : qrowtab p w r T = mixd p r xs w := by
  rw [rowtab_cols hp hr hN]
  unfold mixd
  apply List.map_congr_left
  intro k _
  rw [col_eq (S := tab xs) (by rw [tab_2, e])]
section
variable {p : Int} {n w c f : Nat} {one two other : List (List (Int × Int))} {x : Int × Int} {wr row : List (Int × Int)} {T : Tab} {j : Nat} (D : Drawn p n w c f one two other x wr row T j) (hp : Fld p) (h : AHeap)
include D
theorem Drawn.first : ∃ t0 l0 ol, T = t0 :: l0 ∧ one = t0.2 :: ol := by
  have l := D.T_l
  have c1 := D.c1
  cases e : T with
  | nil =>
    rw [e] at l
    have : 0 = c := l
    omega
  | cons t l =>
    refine ⟨t, l, l.map (·.2), rfl, ?_⟩
    rw [← D.T_2, e, List.map_cons]
theorem Drawn.T_r {t : AV × List (Int × Int)} (ht : t ∈ T) : RowV t.1 t.2 := by
  rcases D.T_f t ht with e | e <;> rw [e] <;> rfl
theorem t5 {t : AV × List (Int × Int)} (ht : t ∈ T) : F_row_plus [fv p, t.1, rowA row] h = .ok (rowA (plusd p t.2 row w)) h := by
  obtain ⟨n1, l1⟩ := D.T_n t ht
  rw [row_plus_ev (u := t.1) (v := rowA row) (D.T_r ht) rfl n1 D.row_n (by omega) (by have := D.w2; omega) h, zip_range (fun a b => qplus p a b) (0, 1) (0, 1) _ _ (by rw [l1, D.row_l]), l1]
  rfl
theorem t6 {t : AV × List (Int × Int)} (ht : t ∈ T) : F_row_minus [fv p, t.1, rowA row] h = .ok (rowA (minusd p t.2 row w)) h := by
  obtain ⟨n1, l1⟩ := D.T_n t ht
  rw [row_minus_ev (u := t.1) (v := rowA row) (D.T_r ht) rfl n1 D.row_n (by omega) (by have := D.w2; omega) h, zip_range (fun a b => qminus p a b) (0, 1) (0, 1) _ _ (by rw [l1, D.row_l]), l1]
  rfl
theorem t7 {t : AV × List (Int × Int)} (ht : t ∈ T) : F_row_times [fv p, pA x, t.1] h = .ok (rowA (t.2.map fun y => qtimes p x y)) h := by
  obtain ⟨n1, l1⟩ := D.T_n t ht
  exact row_times_ev (D.T_r ht) D.x_n n1 (by omega) (by have := D.w2; omega) h
include hp
theorem t4 {r : List (Int × Int)} (hr : r ∈ one) : F_dot [fv p, rowA r, rowA row] h = .ok (pA (qdot p r row)) h := dot_ev (u := rowA r) (v := rowA row) hp rfl rfl (D.one_n r hr).1 D.row_n (by have := (D.one_n r hr).2; have := D.w2; omega) h
theorem u4 {r : List (Int × Int)} (hr : r ∈ one) : F__law_dot [.int p, rowA r, rowA row] h = .ok (pA (qdot p r row)) h := law_dot_ev (u := rowA r) (v := rowA row) hp rfl rfl (D.one_n r hr).1 D.row_n (by rw [(D.one_n r hr).2, D.row_l]; exact Nat.le_refl _) (by have := (D.one_n r hr).2; have := D.w2; omega) h
theorem t8 : F_table_row [fv p, .lst (T.map (·.1)), rowA row] h = .ok (.tup ((one.map fun r => qdot p r row).map pA)) h := by
  have e : (T.map fun t => qdot p t.2 row) = one.map fun r => qdot p r row := by
    rw [← D.T_2, List.map_map] <;> rfl
  rw [table_row_ev (v := rowA row) hp D.T_v rfl D.T_n D.row_n (by have := D.w2; omega) (by have := D.T_l; have := D.c2; omega) h, e]
theorem t9 {wv : AV} (hw : Wide wv w T) : F_row_table [fv p, rowA wr, .lst (T.map (·.1)), wv] h = .ok (rowA (mixd p wr one w)) h := by
  rw [row_table_ev (u := rowA wr) hp rfl D.T_v hw D.wr_n D.T_n (by have := D.wr_l; have := D.c2; omega) (by have := D.w2; omega) h, rowT_eq hp D.wr_n D.T_n D.T_2] <;> rfl
theorem t10 : F_row_table [fv p, .tup [], .tup [], .int (w : Int)] h = .ok (rowA (zrow w)) h := row_table_ev (n := 1) (m := 1) (u := .tup []) (v := .tup []) (r := []) (T := []) (w := w) hp rfl ⟨rfl, fun t ht => (by cases ht)⟩ (.inl rfl) (fun y hy => (by cases hy)) (fun t ht => (by cases ht)) (by simp) (by have := D.w2; omega) h
theorem t12 : F_table_table [fv p, .lst (T.map (·.1)), .lst (other.map rowA)] h = .ok (.tup (one.map fun r => rowA (mixd p r other f))) h := by
  rw [table_table_ev hp D.T_v (tab_v other) D.o_w D.T_n (tab_n D.oth_n) (by have := D.w2; omega) (by have := D.f2; omega) (by have := D.T_l; have := D.c2; omega) h, ← D.T_2, List.map_map]
  congr 2
  apply List.map_congr_left
  intro t ht
  show AV.tup ((qrowtab p f t.2 (tab other)).map pA) = rowA (mixd p t.2 other f)
  rw [rowT_eq hp (D.T_n t ht).1 (tab_n D.oth_n) (tab_2 other)] <;> rfl
omit hp
theorem t13 : F_turned [.lst (other.map rowA)] h = .ok (.tup (cols other f)) h := by
  obtain ⟨_, t, l, e, q⟩ := (D.o_w).resolve_left nofun
  exact turned_ev (tab_v other) ⟨t, l, e, q⟩ (fun t ht => (tab_n D.oth_n t ht).2) (by have := D.f2; omega) (by unfold tab; rw [List.length_map]; have := D.oth_l; have := D.w2; omega) h
theorem t14 : F_turned [.lst (T.map (·.1))] h = .ok (.tup (cols one w)) h := by
  obtain ⟨_, t, l, e, q⟩ := (D.T_w).resolve_left nofun
  rw [turned_ev D.T_v ⟨t, l, e, q⟩ (fun t ht => (D.T_n t ht).2) (by have := D.w2; omega) (by have := D.T_l; have := D.c2; omega) h]
  unfold cols
  congr 2
  apply List.map_congr_left
  intro k _
  rw [col_eq (S := tab one) (by rw [tab_2, D.T_2])]
theorem t15 : F_table_plus [fv p, .lst (T.map (·.1)), .lst (two.map rowA)] h = .ok (.tup (addd p one two w c)) h := by
  rw [table_plus_ev D.T_v (tab_v two) D.T_n (tab_n D.two_n) (by omega) (by have := D.w2; omega) (by have := D.T_l; have := D.c2; omega) h]
  congr 2
  unfold addd
  have e1 : ((T.zip (tab two)).map fun z => AV.tup (((z.1.2.zip z.2.2).map fun y => qplus p y.1 y.2).map pA)) = ((one.zip two).map fun z => AV.tup (((z.1.zip z.2).map fun y => qplus p y.1 y.2).map pA)) := by
    rw [← D.T_2]
    unfold tab
    rw [zip_map_r, List.map_map]
    have : ∀ (U : Tab) (s : List (List (Int × Int))), ((U.zip s).map fun z => AV.tup (((z.1.2.zip z.2).map fun y => qplus p y.1 y.2).map pA)) = (((U.map (·.2)).zip s).map fun z => AV.tup (((z.1.zip z.2).map fun y => qplus p y.1 y.2).map pA)) := by
      intro U
      induction U with
      | nil => intro s; rw [List.map_nil, List.zip_nil_left, List.zip_nil_left] <;> rfl
      | cons t U ih =>
        intro s
        cases s with
        | nil => rfl
        | cons y s =>
          rw [List.map_cons, List.zip_cons_cons, List.zip_cons_cons, List.map_cons, List.map_cons, ih s]
    exact this T two
  rw [e1, zip_range (fun (a b : List (Int × Int)) => AV.tup (((a.zip b).map fun y => qplus p y.1 y.2).map pA)) [] [] one two (by rw [D.one_l, D.two_l]), D.one_l]
  apply List.map_congr_left
  intro k hk
  have kc := List.mem_range.mp hk
  have m1 : one.getD k [] ∈ one := by
    rw [List.getD_eq_getElem?_getD, List.getElem?_eq_getElem (by rw [D.one_l]; exact kc)]
    exact List.getElem_mem _
  have m2 : two.getD k [] ∈ two := by
    rw [List.getD_eq_getElem?_getD, List.getElem?_eq_getElem (by rw [D.two_l]; exact kc)]
    exact List.getElem_mem _
  rw [zip_range (fun a b => qplus p a b) (0, 1) (0, 1) _ _ (by rw [(D.one_n _ m1).2, (D.two_n _ m2).2]), (D.one_n _ m1).2]
  rfl
end
end W

set_option maxRecDepth 100000
set_option maxHeartbeats 8000000
namespace W
open PySem PySem.Spec L2 Mi

theorem aTup_r {h : AHeap} {c : Nat} {l : List AV} (e : h[c]? = some (some (.lst l))) : aTuple [.ref c] h = some (.tup l) := by
  show (match getL h (.ref c) with
    | some l => some (AV.tup l)
    | none => none) = _
  have : getL h (.ref c) = some l := by
    unfold getL
    dsimp only
    rw [e]
  rw [this]
/-- plain data of small depth -/
def Pyd (k : Nat) (v : AV) : Prop := ∃ d, py0 v = some d ∧ d.canLay0 = true ∧ d.depth ≤ k
theorem pydL {k : Nat} : ∀ {l : List AV}, (∀ v ∈ l, Pyd k v) → ∃ ds, py0L l = some ds ∧ PyData.canLayAll0 ds = true ∧ PyData.depthAll ds ≤ k
  | [], _ => ⟨[], rfl, rfl, Nat.zero_le _⟩
  | v :: l, h => by
    obtain ⟨d, e1, e2, e3⟩ := h v List.mem_cons_self
    obtain ⟨ds, f1, f2, f3⟩ := pydL fun u hu => h u (List.mem_cons_of_mem _ hu)
    refine ⟨d :: ds, ?_, ?_, ?_⟩
    · unfold py0L
      rw [e1, f1]
    · show (d.canLay0 && PyData.canLayAll0 ds) = true
      rw [e2, f2]
      rfl
    · show max d.depth (PyData.depthAll ds) ≤ k
      omega
theorem pyd_tup {k : Nat} {l : List AV} (h : ∀ v ∈ l, Pyd k v) : Pyd (k + 1) (.tup l) := by
  obtain ⟨ds, f1, f2, f3⟩ := pydL h
  refine ⟨.tuple ds, ?_, f2, ?_⟩
  · show (match py0L l with
      | some d => some (PyData.tuple d)
      | none => none) = _
    rw [f1]
  · show PyData.depthAll ds + 1 ≤ k + 1
    omega
theorem Pyd.mono {k m : Nat} {v : AV} (h : Pyd k v) (hm : k ≤ m) : Pyd m v := by
  obtain ⟨d, e1, e2, e3⟩ := h
  exact ⟨d, e1, e2, by omega⟩
theorem pyd_pA (x : Int × Int) : Pyd 1 (pA x) := pyd_tup fun v hv => by
  rcases List.mem_cons.mp hv with rfl | hv
  · exact ⟨.int x.1, rfl, rfl, Nat.le_refl _⟩
  · have : v = .int x.2 := by simpa using hv
    rw [this]
    exact ⟨.int x.2, rfl, rfl, Nat.le_refl _⟩
theorem pyd_row (r : List (Int × Int)) : Pyd 2 (rowA r) := pyd_tup fun v hv => by
  obtain ⟨x, _, rfl⟩ := List.mem_map.mp hv
  exact pyd_pA x
theorem eq_lc {l : List AV} {h : AHeap} {c : Nat} (hp : ∀ v ∈ l, Pyd 10 v) (e : h[c]? = some (some (.lst l))) : aEq (.lst l) (.ref c) h = some (.bl true) := by
  obtain ⟨ds, f1, f2, f3⟩ := pydL hp
  have e1 : py h (.lst l) = some (.list ds) := by
    show (match py0L l with
      | some d => some (PyData.list d)
      | none => none) = _
    rw [f1]
  have e2 : py h (.ref c) = some (.list ds) := by
    unfold py
    dsimp only
    rw [e]
    dsimp only
    rw [f1]
  have sp : SeqAt.shaped (.list ds) = true := by
    unfold SeqAt.shaped
    have d1 : PyData.depth (.list ds) ≤ 64 := by
      show PyData.depthAll ds + 1 ≤ 64
      omega
    have c1 : PyData.canLay0 (.list ds) = true := f2
    rw [c1, decide_eq_true d1]
    rfl
  unfold aEq
  rw [e1, e2]
  dsimp only
  rw [if_pos ⟨sp, sp⟩, SeqAt.eqv_refl _ (SeqAt.canLay_of_shaped sp)]
/-- rows of rows, short enough -/
def TabS (v : AV) : Prop := ∃ xs : List (List (Int × Int)), v = .tup (xs.map rowA) ∧ xs.length ≤ 1000 ∧ ∀ r ∈ xs, r.length ≤ 1000
theorem TabS.pyd {v : AV} (h : TabS v) : Pyd 3 v := by
  obtain ⟨xs, rfl, _, _⟩ := h
  exact pyd_tup fun v hv => by
    obtain ⟨r, _, rfl⟩ := List.mem_map.mp hv
    exact pyd_row r
theorem TabS.kind {v : AV} (h : TabS v) (k : AHeap) : F__law_kinds_u4 [v, .int 3] k = .ok (.bl true) k := by
  obtain ⟨xs, rfl, h1, h2⟩ := h
  exact kinds_tab4 h1 h2 k
theorem tabS_of {n m : Nat} (g : Nat → List (Int × Int)) (hn : n ≤ 1000) (hg : ∀ k, (g k).length = m) (hm : m ≤ 1000) : TabS (.tup ((List.range n).map fun k => rowA (g k))) :=
  ⟨(List.range n).map g, by rw [List.map_map] <;> rfl, by rw [List.length_map, List.length_range]; exact hn, fun r hr => by
    obtain ⟨k, _, rfl⟩ := List.mem_map.mp hr
    rw [hg]
    exact hm⟩
theorem onl_all (l : List AV) (h : AHeap) : onL fAll [.lst (l.map fun _ => AV.bl true)] h = some (.bl true) := bools_all l
def okV (v : AV) : Prop := Pyd 10 v ∧ ∀ k, F__law_kinds_u4 [v, .int 3] k = .ok (.bl true) k
theorem okV_p (x : Int × Int) : okV (pA x) := ⟨(pyd_pA x).mono (by decide), fun k => kinds_pA4 (by decide) x k⟩
theorem okV_r {r : List (Int × Int)} (h : r.length ≤ 1000) : okV (rowA r) := ⟨(pyd_row r).mono (by decide), fun k => kinds_row4 (by decide) h k⟩
theorem okV_t {v : AV} (h : TabS v) : okV v := ⟨h.pyd.mono (by decide), h.kind⟩
theorem plusd_len (p : Int) (a b : List (Int × Int)) (w : Nat) : (plusd p a b w).length = w := by
  unfold plusd
  rw [List.length_map, List.length_range]
theorem minusd_len (p : Int) (a b : List (Int × Int)) (w : Nat) : (minusd p a b w).length = w := by
  unfold minusd
  rw [List.length_map, List.length_range]
theorem mixd_len (p : Int) (a : List (Int × Int)) (xs : List (List (Int × Int))) (w : Nat) : (mixd p a xs w).length = w := by
  unfold mixd
  rw [List.length_map, List.length_range]
theorem urow_len (w k : Nat) : (urow w k).length = w := by
  unfold urow
  rw [List.length_map, List.length_range]

local macro_rules | `(tactic| walk_at "ev") => `(tactic| simp only [noX, fnOf, mSeq, mNext, mAsg, gNm, mIfS, mTst, mTru, mOp, mUn, mVar, mC, mCons, mNil, mTup, mLst, mRet, mCall, mMeth, mCB, mIf, mAnd, mOr, mNot, mAndV, mOrV, mNotV, mNotT, mPar, mDrop, aTup_r, isLc, beq_self_eq_true, mLstC, ixN3_1, ixN3_2, pow18, pow30, pow6, List.set_set, gTp, gsCons, gsNil, mSetAt, mSetIx, mApp, mExt, mFrz, mChain, at_f0, List.map_cons, List.map_nil, List.length_cons, List.length_nil, List.cons_append, List.nil_append, List.append_nil, List.replicate_succ, List.replicate_zero, Nat.reduceAdd, Nat.reduceSub, List.getElem?_cons_zero, List.getElem?_cons_succ, List.set_cons_zero, List.set_cons_succ, aAt_0, aAt_1, aAt_2, aEq_int, aNe_int, aEq_t2, aNe_t2, aNe_ni, aNe_in, aNe_nn, aIx_t, aIx_l, aAdd_int, aSub_int, aMul_int, aMod_int, aFdiv_int, aCmp_int, aIs_n, aIsNot_n, aIsNot_b, tr_bl, tr_lst, isi_ii, isi_ib, isi_tt, aInt_int, aAbs_int, aLen_tup, aLen_lst, isN, sizeLine_eq, Nat.reduceLeDiff, Nat.reduceLT, ↓reduceIte, decide_true, decide_false, eq_self, if_true, Bool.false_eq_true, Bool.not_true, Bool.not_false, Bool.true_and, Bool.and_true, Bool.false_and, Bool.and_false, *])
theorem f27 {p : Int} {n w c f : Nat} {one two other : List (List (Int × Int))} {x : Int × Int} {wr row : List (Int × Int)} {T : Tab} {j : Nat} {S : Str} (D : Drawn p n w c f one two other x wr row T j) {k : Nat} (kc : k < c) (h : AHeap) : mLc [23] (iR1 (mCons (mVar 3) (mNil))) (gNm 23) mYes e1__law_tables_right [some (.ref 0), some (.int p), some (fv p), some (.int (w : Int)), some (.int (c : Int)), some (.int (f : Int)), some (.lst (one.map rowA)), some (.lst (two.map rowA)), some (.lst (other.map rowA)), some (pA x), some (rowA wr), some (rowA row), some (.lst (T.map (·.1))), some (.str S), some (.int (j : Int)), some (.lst (cols other f)), some (rowA (mixd p wr one w)), some (.ref 1), some (.ref 2), some (.ref 3), some (.int (k : Int)), none, none, none, none] h = .ok (.lst ((plusd p (one.getD k []) (two.getD k []) w).map pA)) h := by
  have w2 := D.w2
  have m1 : one.getD k [] ∈ one := by
    rw [List.getD_eq_getElem?_getD, List.getElem?_eq_getElem (by rw [D.one_l]; exact kc)]
    exact List.getElem_mem _
  have m2 : two.getD k [] ∈ two := by
    rw [List.getD_eq_getElem?_getD, List.getElem?_eq_getElem (by rw [D.two_l]; exact kc)]
    exact List.getElem_mem _
  have b1 : ∀ h, aIx (.lst (one.map rowA)) (.int (k : Int)) h = some (rowA (one.getD k [])) := fun h => aIx_frz (v := .lst (one.map rowA)) rfl (by
    rw [List.getElem?_map, List.getElem?_eq_getElem (by rw [D.one_l]; exact kc), List.getD_eq_getElem?_getD, List.getElem?_eq_getElem (by rw [D.one_l]; exact kc)] <;> rfl) h
  have b2 : ∀ h, aIx (.lst (two.map rowA)) (.int (k : Int)) h = some (rowA (two.getD k [])) := fun h => aIx_frz (v := .lst (two.map rowA)) rfl (by
    rw [List.getElem?_map, List.getElem?_eq_getElem (by rw [D.two_l]; exact kc), List.getD_eq_getElem?_getD, List.getElem?_eq_getElem (by rw [D.two_l]; exact kc)] <;> rfl) h
  have ei : iR1 (mCons (mVar 3) (mNil)) [some (.ref 0), some (.int p), some (fv p), some (.int (w : Int)), some (.int (c : Int)), some (.int (f : Int)), some (.lst (one.map rowA)), some (.lst (two.map rowA)), some (.lst (other.map rowA)), some (pA x), some (rowA wr), some (rowA row), some (.lst (T.map (·.1))), some (.str S), some (.int (j : Int)), some (.lst (cols other f)), some (rowA (mixd p wr one w)), some (.ref 1), some (.ref 2), some (.ref 3), some (.int (k : Int)), none, none, none, none] h = .ok ((List.range w).map fun (k : Nat) => AV.int (k : Int)) h := by
    rw [iR1_ev (j := (w : Int)) rfl (by omega) (by omega), Int.toNat_natCast, rng_map]
  have key := lc_map (own := [23]) (g := gNm 23) (e := e1__law_tables_right) (k := fun (i : Nat) => pA (qplus p ((one.getD k []).getD i (0, 1)) ((two.getD k []).getD i (0, 1)))) ei (fun i hi acc => ⟨_, rfl, by
    have iw := List.mem_range.mp hi
    have g1 := D.at_one m1 iw
    have g2 := D.at_two m2 iw
    have q := fun h => lplus_ev (D.on m1 iw) (D.tn m2 iw) (by omega) h
    unfold e1__law_tables_right
    generalize F__law_plus = FF at q ⊢
    simp only [mOp, mMeth, mCall, mCons, mNil, mVar, mC, List.getElem?_cons_zero, List.getElem?_cons_succ, List.append_nil, List.cons_append, List.nil_append, List.length_cons, List.length_nil, Nat.reduceAdd, ↓reduceIte, wipeA, List.set_cons_succ, List.set_cons_zero, b1, b2, g1, g2, q]⟩) (fun _ _ => rfl) (by rw [List.length_range]; exact small_len (by omega))
  rw [tup_map (List.range w) (fun (i : Nat) => qplus p ((one.getD k []).getD i (0, 1)) ((two.getD k []).getD i (0, 1)))] at key
  exact key

theorem second_ev {p : Int} {n w c f : Nat} {one two other : List (List (Int × Int))} {x : Int × Int} {wr row : List (Int × Int)} {T : Tab} {j : Nat} {S : Str} (D : Drawn p n w c f one two other x wr row T j) (hp : Fld p) (s1 : ∀ h, aRepr [.lst (T.map (·.1))] h = some (.str S)) (s2 : ∀ h, aEq (.str S) (.str S) h = some (.bl true)) (A : Option MO) : ∃ ρ' r, m2_law_tables_right [some (.ref 0), some (.int p), some (fv p), some (.int (w : Int)), some (.int (c : Int)), some (.int (f : Int)), some (.lst (one.map rowA)), some (.lst (two.map rowA)), some (.lst (other.map rowA)), some (pA x), some (rowA wr), some (rowA row), some (.lst (T.map (·.1))), some (.str S), some (.int (j : Int)), none, none, none, none, none, none, none, none, none, none] [A] = .ok (.rt (.bl true)) ρ' (A :: r) := by
  obtain ⟨t0, l0, ol, eT, e0⟩ := D.first
  have mt : t0 ∈ T := by rw [eT]; exact List.mem_cons_self
  have mo : t0.2 ∈ one := by rw [e0]; exact List.mem_cons_self
  have w2 := D.w2
  have a1 : ∀ h, aIx (.lst (one.map rowA)) (.int 0) h = some (rowA t0.2) := fun h => aIx_frz (k := 0) (v := .lst (one.map rowA)) rfl (by rw [e0] <;> rfl) h
  have a2 : ∀ h, aIx (.lst (T.map (·.1))) (.int 0) h = some t0.1 := fun h => aIx_frz (k := 0) (v := .lst (T.map (·.1))) rfl (by rw [eT] <;> rfl) h
  have q1 : ∀ h, F_zero_row [.int (w : Int)] h = .ok (rowA (zrow w)) h := fun h => zero_row_ev w (by omega) h
  have q2 : ∀ h, F_unit_row [.int (w : Int), .int (j : Int)] h = .ok (rowA (urow w j)) h := fun h => unit_row_ev w j (by omega) h
  have q3 := fun h => unit_table_ev w (by omega) h
  have q4 := fun h => t4 D hp h mo
  have q5 := fun h => t5 D h mt
  have q6 := fun h => t6 D h mt
  have q7 := fun h => t7 D h mt
  have q8 := fun h => t8 D hp h
  have q9 := fun h => t9 D hp h D.T_w
  have q10 := fun h => t10 D hp h
  have q11 := fun h => t9 D hp h (wv := .int (w : Int)) (.inl rfl)
  have q12 := fun h => t12 D hp h
  have q13 := fun h => t13 D h
  have q14 := fun h => t14 D h
  have q15 := fun h => t15 D h
  have u1 : ∀ h, F__law_zero [.int (w : Int)] h = .ok (rowA (zrow w)) h := fun h => law_zero_ev w (by omega) h
  have u2 : ∀ h, F__law_unit [.int (w : Int), .int (j : Int)] h = .ok (rowA (urow w j)) h := fun h => law_unit_ev w j (by omega) h
  have u4' := fun h => u4 D hp h mo
  have c12 := fun h => f12 (S := S) D hp h
  have c13 := fun h => f13 (S := S) D hp h
  have c15 := fun h => f15 (S := S) D h
  have c17 := fun h => f17 (S := S) D e0 h
  have c18 := fun h => f18 (S := S) D e0 h
  have c19 := fun h => f19 (S := S) D e0 h
  have c21 := fun h => f21 (S := S) D hp h
  have c23 := fun h => f23 (S := S) D hp h
  have c24 := fun h => f24 (S := S) D h
  obtain ⟨W, hW⟩ : ∃ W : Int, (w : Int) = W := ⟨_, rfl⟩
  obtain ⟨C, hC⟩ : ∃ W : Int, (c : Int) = W := ⟨_, rfl⟩
  obtain ⟨F, hF⟩ : ∃ W : Int, (f : Int) = W := ⟨_, rfl⟩
  obtain ⟨J, hJ⟩ : ∃ W : Int, ((j : Nat) : Int) = W := ⟨_, rfl⟩
  simp only [hW, hC, hF, hJ] at q1 q2 q3 q10 q11 u1 u2 c12 c13 c15 c17 c18 c19 c21 c23 c24
  have rw_ : (AV.tup ((mixd p wr one w).map pA)) = rowA (mixd p wr one w) := rfl
  try simp only [rw_] at c15
  try simp only [rw_] at c17
  try simp only [rw_] at c18
  try simp only [rw_] at c19
  try simp only [rw_] at c21
  try simp only [rw_] at c23
  try simp only [rw_] at c24
  have loop : ∃ z, mFor (iR1 (mCons (mVar 4) (mNil))) (gNm 20) b2__law_tables_right [some (.ref 0), some (.int p), some (fv p), some (.int W), some (.int C), some (.int F), some (.lst (one.map rowA)), some (.lst (two.map rowA)), some (.lst (other.map rowA)), some (pA x), some (rowA wr), some (rowA row), some (.lst (T.map (·.1))), some (.str S), some (.int J), some (.lst (cols other f)), some (rowA (mixd p wr one w)), some (.ref 1), some (.ref 2), some (.ref 3), none, none, none, none, none] [A, some (.lst [rowA (zrow w), rowA (urow w j), .tup ((List.range w).map fun k => rowA (urow w k)), pA (qdot p t0.2 row), rowA (plusd p t0.2 row w), rowA (minusd p t0.2 row w), rowA (t0.2.map fun y => qtimes p x y), .tup ((one.map fun r => qdot p r row).map pA), rowA (mixd p wr one w), rowA (zrow w), rowA (mixd p wr one w), .tup (one.map fun r => rowA (mixd p r other f)), .tup (cols other f), .tup (cols one w), .tup (addd p one two w c)]), some (.lst [rowA (zrow w), rowA (urow w j), .tup ((List.range w).map fun k => rowA (urow w k)), pA (qdot p t0.2 row), rowA (plusd p t0.2 row w), rowA (minusd p t0.2 row w), rowA (t0.2.map fun y => qtimes p x y), .tup ((one.map fun r => qdot p r row).map pA), rowA (mixd p wr one w), rowA (zrow w), rowA (mixd p wr one w), .tup (one.map fun r => rowA (mixd p r other f)), .tup (cols other f), .tup (cols one w)]), some (.lst [])] = .ok .nx [some (.ref 0), some (.int p), some (fv p), some (.int W), some (.int C), some (.int F), some (.lst (one.map rowA)), some (.lst (two.map rowA)), some (.lst (other.map rowA)), some (pA x), some (rowA wr), some (rowA row), some (.lst (T.map (·.1))), some (.str S), some (.int J), some (.lst (cols other f)), some (rowA (mixd p wr one w)), some (.ref 1), some (.ref 2), some (.ref 3), z, none, none, none, none] [A, some (.lst [rowA (zrow w), rowA (urow w j), .tup ((List.range w).map fun k => rowA (urow w k)), pA (qdot p t0.2 row), rowA (plusd p t0.2 row w), rowA (minusd p t0.2 row w), rowA (t0.2.map fun y => qtimes p x y), .tup ((one.map fun r => qdot p r row).map pA), rowA (mixd p wr one w), rowA (zrow w), rowA (mixd p wr one w), .tup (one.map fun r => rowA (mixd p r other f)), .tup (cols other f), .tup (cols one w), .tup (addd p one two w c)]), some (.lst [rowA (zrow w), rowA (urow w j), .tup ((List.range w).map fun k => rowA (urow w k)), pA (qdot p t0.2 row), rowA (plusd p t0.2 row w), rowA (minusd p t0.2 row w), rowA (t0.2.map fun y => qtimes p x y), .tup ((one.map fun r => qdot p r row).map pA), rowA (mixd p wr one w), rowA (zrow w), rowA (mixd p wr one w), .tup (one.map fun r => rowA (mixd p r other f)), .tup (cols other f), .tup (cols one w)]), some (.lst (addd p one two w c))] := by
    have c2 := D.c2
    have ei : iR1 (mCons (mVar 4) (mNil)) [some (.ref 0), some (.int p), some (fv p), some (.int W), some (.int C), some (.int F), some (.lst (one.map rowA)), some (.lst (two.map rowA)), some (.lst (other.map rowA)), some (pA x), some (rowA wr), some (rowA row), some (.lst (T.map (·.1))), some (.str S), some (.int J), some (.lst (cols other f)), some (rowA (mixd p wr one w)), some (.ref 1), some (.ref 2), some (.ref 3), none, none, none, none, none] [A, some (.lst [rowA (zrow w), rowA (urow w j), .tup ((List.range w).map fun k => rowA (urow w k)), pA (qdot p t0.2 row), rowA (plusd p t0.2 row w), rowA (minusd p t0.2 row w), rowA (t0.2.map fun y => qtimes p x y), .tup ((one.map fun r => qdot p r row).map pA), rowA (mixd p wr one w), rowA (zrow w), rowA (mixd p wr one w), .tup (one.map fun r => rowA (mixd p r other f)), .tup (cols other f), .tup (cols one w), .tup (addd p one two w c)]), some (.lst [rowA (zrow w), rowA (urow w j), .tup ((List.range w).map fun k => rowA (urow w k)), pA (qdot p t0.2 row), rowA (plusd p t0.2 row w), rowA (minusd p t0.2 row w), rowA (t0.2.map fun y => qtimes p x y), .tup ((one.map fun r => qdot p r row).map pA), rowA (mixd p wr one w), rowA (zrow w), rowA (mixd p wr one w), .tup (one.map fun r => rowA (mixd p r other f)), .tup (cols other f), .tup (cols one w)]), some (.lst [])] = .ok (rng 0 c) [A, some (.lst [rowA (zrow w), rowA (urow w j), .tup ((List.range w).map fun k => rowA (urow w k)), pA (qdot p t0.2 row), rowA (plusd p t0.2 row w), rowA (minusd p t0.2 row w), rowA (t0.2.map fun y => qtimes p x y), .tup ((one.map fun r => qdot p r row).map pA), rowA (mixd p wr one w), rowA (zrow w), rowA (mixd p wr one w), .tup (one.map fun r => rowA (mixd p r other f)), .tup (cols other f), .tup (cols one w), .tup (addd p one two w c)]), some (.lst [rowA (zrow w), rowA (urow w j), .tup ((List.range w).map fun k => rowA (urow w k)), pA (qdot p t0.2 row), rowA (plusd p t0.2 row w), rowA (minusd p t0.2 row w), rowA (t0.2.map fun y => qtimes p x y), .tup ((one.map fun r => qdot p r row).map pA), rowA (mixd p wr one w), rowA (zrow w), rowA (mixd p wr one w), .tup (one.map fun r => rowA (mixd p r other f)), .tup (cols other f), .tup (cols one w)]), some (.lst [])] := by
      have q := iR1_ev (a := mCons (mVar 4) (mNil)) (ρ := [some (.ref 0), some (.int p), some (fv p), some (.int W), some (.int C), some (.int F), some (.lst (one.map rowA)), some (.lst (two.map rowA)), some (.lst (other.map rowA)), some (pA x), some (rowA wr), some (rowA row), some (.lst (T.map (·.1))), some (.str S), some (.int J), some (.lst (cols other f)), some (rowA (mixd p wr one w)), some (.ref 1), some (.ref 2), some (.ref 3), none, none, none, none, none]) (h := [A, some (.lst [rowA (zrow w), rowA (urow w j), .tup ((List.range w).map fun k => rowA (urow w k)), pA (qdot p t0.2 row), rowA (plusd p t0.2 row w), rowA (minusd p t0.2 row w), rowA (t0.2.map fun y => qtimes p x y), .tup ((one.map fun r => qdot p r row).map pA), rowA (mixd p wr one w), rowA (zrow w), rowA (mixd p wr one w), .tup (one.map fun r => rowA (mixd p r other f)), .tup (cols other f), .tup (cols one w), .tup (addd p one two w c)]), some (.lst [rowA (zrow w), rowA (urow w j), .tup ((List.range w).map fun k => rowA (urow w k)), pA (qdot p t0.2 row), rowA (plusd p t0.2 row w), rowA (minusd p t0.2 row w), rowA (t0.2.map fun y => qtimes p x y), .tup ((one.map fun r => qdot p r row).map pA), rowA (mixd p wr one w), rowA (zrow w), rowA (mixd p wr one w), .tup (one.map fun r => rowA (mixd p r other f)), .tup (cols other f), .tup (cols one w)]), some (.lst [])]) (h1 := [A, some (.lst [rowA (zrow w), rowA (urow w j), .tup ((List.range w).map fun k => rowA (urow w k)), pA (qdot p t0.2 row), rowA (plusd p t0.2 row w), rowA (minusd p t0.2 row w), rowA (t0.2.map fun y => qtimes p x y), .tup ((one.map fun r => qdot p r row).map pA), rowA (mixd p wr one w), rowA (zrow w), rowA (mixd p wr one w), .tup (one.map fun r => rowA (mixd p r other f)), .tup (cols other f), .tup (cols one w), .tup (addd p one two w c)]), some (.lst [rowA (zrow w), rowA (urow w j), .tup ((List.range w).map fun k => rowA (urow w k)), pA (qdot p t0.2 row), rowA (plusd p t0.2 row w), rowA (minusd p t0.2 row w), rowA (t0.2.map fun y => qtimes p x y), .tup ((one.map fun r => qdot p r row).map pA), rowA (mixd p wr one w), rowA (zrow w), rowA (mixd p wr one w), .tup (one.map fun r => rowA (mixd p r other f)), .tup (cols other f), .tup (cols one w)]), some (.lst [])]) (j := C) rfl (by omega) (by omega)
      rw [show C.toNat = c by omega] at q
      exact q
    generalize ([rowA (zrow w), rowA (urow w j), .tup ((List.range w).map fun k => rowA (urow w k)), pA (qdot p t0.2 row), rowA (plusd p t0.2 row w), rowA (minusd p t0.2 row w), rowA (t0.2.map fun y => qtimes p x y), .tup ((one.map fun r => qdot p r row).map pA), rowA (mixd p wr one w), rowA (zrow w), rowA (mixd p wr one w), .tup (one.map fun r => rowA (mixd p r other f)), .tup (cols other f), .tup (cols one w), .tup (addd p one two w c)] : List AV) = TL at ei ⊢
    generalize ([rowA (zrow w), rowA (urow w j), .tup ((List.range w).map fun k => rowA (urow w k)), pA (qdot p t0.2 row), rowA (plusd p t0.2 row w), rowA (minusd p t0.2 row w), rowA (t0.2.map fun y => qtimes p x y), .tup ((one.map fun r => qdot p r row).map pA), rowA (mixd p wr one w), rowA (zrow w), rowA (mixd p wr one w), .tup (one.map fun r => rowA (mixd p r other f)), .tup (cols other f), .tup (cols one w)] : List AV) = DL at ei ⊢
    obtain ⟨ρ', h', e, ⟨z, m, i, hρ, hh, er, hm⟩⟩ := mFor_run (g := gNm 20) (b := b2__law_tables_right) (I := fun l ρ kk => ∃ (z : Option AV) (m i : Nat), ρ = [some (.ref 0), some (.int p), some (fv p), some (.int W), some (.int C), some (.int F), some (.lst (one.map rowA)), some (.lst (two.map rowA)), some (.lst (other.map rowA)), some (pA x), some (rowA wr), some (rowA row), some (.lst (T.map (·.1))), some (.str S), some (.int J), some (.lst (cols other f)), some (rowA (mixd p wr one w)), some (.ref 1), some (.ref 2), some (.ref 3), z, none, none, none, none] ∧ kk = [A, some (.lst TL), some (.lst DL), some (.lst ((List.range m).map fun k => rowA (plusd p (one.getD k []) (two.getD k []) w)))] ∧ l = rng (m : Int) i ∧ m + i = c) ei
      ⟨none, 0, c, rfl, rfl, rfl, by omega⟩
      (by
        rintro d l ρ kk ⟨z, m, i, rfl, rfl, er, hm⟩
        obtain ⟨rfl, i', rfl, rfl⟩ := rng_cons er
        refine ⟨_, _, ⟨_, _, rfl, .inl ?_⟩, some (.int (m : Int)), m + 1, i', rfl, rfl, rfl, by omega⟩
        have lc := fun h => f27 (S := S) D (k := m) (by omega) h
        simp only [hW, hC, hF, hJ] at lc
        have ln : ((List.range m).map fun k => rowA (plusd p (one.getD k []) (two.getD k []) w)).length < sizeLine := by
          rw [List.length_map, List.length_range, sizeLine_eq]
          omega
        have ex : ((List.range (m + 1)).map fun k => rowA (plusd p (one.getD k []) (two.getD k []) w)) = ((List.range m).map fun k => rowA (plusd p (one.getD k []) (two.getD k []) w)) ++ [rowA (plusd p (one.getD m []) (two.getD m []) w)] := by
          rw [List.range_succ, List.map_append] <;> rfl
        rw [ex]
        generalize ((List.range m).map fun k => rowA (plusd p (one.getD k []) (two.getD k []) w)) = LL at ln ⊢
        refine drop_ev (d := .non) ?_
        generalize mLc [23] (iR1 (mCons (mVar 3) (mNil))) (gNm 23) mYes e1__law_tables_right = M at lc ⊢
        simp only [mApp, isLc, mCB, mCons, mNil, mVar, List.set_cons_succ, List.set_cons_zero, List.getElem?_cons_zero, List.getElem?_cons_succ, ↓reduceIte, lc, aTup, ln]
        rfl)
    have i0 : i = 0 := rng_nil er.symm
    subst i0
    have : m = c := by omega
    subst this
    subst hρ hh
    exact ⟨z, e⟩
  obtain ⟨z, loop⟩ := loop
  have okz : ∀ v ∈ ([rowA (zrow w), rowA (urow w j), .tup ((List.range w).map fun k => rowA (urow w k)), pA (qdot p t0.2 row), rowA (plusd p t0.2 row w), rowA (minusd p t0.2 row w), rowA (t0.2.map fun y => qtimes p x y), .tup ((one.map fun r => qdot p r row).map pA), rowA (mixd p wr one w), rowA (zrow w), rowA (mixd p wr one w), .tup (one.map fun r => rowA (mixd p r other f)), .tup (cols other f), .tup (cols one w), .tup (addd p one two w c)] : List AV), okV v := by
    intro v hv
    simp only [List.mem_cons, List.not_mem_nil, or_false] at hv
    have f2 := D.f2
    have c2 := D.c2
    have kc : ∀ (xs : List (List (Int × Int))) (m : Nat), m ≤ 1000 → xs.length ≤ 1000 → TabS (.tup (cols xs m)) := fun xs m h1 h2 => tabS_of (fun k => col (tab xs) k) h1 (fun k => col_len xs k) h2
    rcases hv with rfl | rfl | rfl | rfl | rfl | rfl | rfl | rfl | rfl | rfl | rfl | rfl | rfl | rfl | rfl
    · exact okV_r (by rw [zrow_len]; omega)
    · exact okV_r (by rw [urow_len]; omega)
    · exact okV_t (tabS_of _ (by omega) (fun k => urow_len w k) (by omega))
    · exact okV_p _
    · exact okV_r (by rw [plusd_len]; omega)
    · exact okV_r (by rw [minusd_len]; omega)
    · exact okV_r (by rw [List.length_map, (D.one_n _ mo).2]; omega)
    · exact okV_r (r := one.map fun r => qdot p r row) (by rw [List.length_map, D.one_l]; omega)
    · exact okV_r (by rw [mixd_len]; omega)
    · exact okV_r (by rw [zrow_len]; omega)
    · exact okV_r (by rw [mixd_len]; omega)
    · exact okV_t ⟨one.map fun r => mixd p r other f, by rw [List.map_map] <;> rfl, by rw [List.length_map, D.one_l]; omega, fun r hr => by
        obtain ⟨a, _, rfl⟩ := List.mem_map.mp hr
        rw [mixd_len]
        omega⟩
    · exact okV_t (kc other f (by omega) (by rw [D.oth_l]; omega))
    · exact okV_t (kc one w (by omega) (by rw [D.one_l]; omega))
    · exact okV_t (tabS_of _ (by omega) (fun k => plusd_len p _ _ w) (by omega))
  have kinds : ∀ h, mLc [24] (iSq (mVar 17)) (gNm 24) mYes e0__law_tables_right [some (.ref 0), some (.int p), some (fv p), some (.int W), some (.int C), some (.int F), some (.lst (one.map rowA)), some (.lst (two.map rowA)), some (.lst (other.map rowA)), some (pA x), some (rowA wr), some (rowA row), some (.lst (T.map (·.1))), some (.str S), some (.int J), some (.lst (cols other f)), some (rowA (mixd p wr one w)), some (.lst [rowA (zrow w), rowA (urow w j), .tup ((List.range w).map fun k => rowA (urow w k)), pA (qdot p t0.2 row), rowA (plusd p t0.2 row w), rowA (minusd p t0.2 row w), rowA (t0.2.map fun y => qtimes p x y), .tup ((one.map fun r => qdot p r row).map pA), rowA (mixd p wr one w), rowA (zrow w), rowA (mixd p wr one w), .tup (one.map fun r => rowA (mixd p r other f)), .tup (cols other f), .tup (cols one w), .tup (addd p one two w c)]), some (.ref 2), some (.ref 3), z, none, none, none, none] h = .ok (.lst (([rowA (zrow w), rowA (urow w j), .tup ((List.range w).map fun k => rowA (urow w k)), pA (qdot p t0.2 row), rowA (plusd p t0.2 row w), rowA (minusd p t0.2 row w), rowA (t0.2.map fun y => qtimes p x y), .tup ((one.map fun r => qdot p r row).map pA), rowA (mixd p wr one w), rowA (zrow w), rowA (mixd p wr one w), .tup (one.map fun r => rowA (mixd p r other f)), .tup (cols other f), .tup (cols one w), .tup (addd p one two w c)] : List AV).map fun _ => AV.bl true)) h := by
    intro h
    have lnT : ([rowA (zrow w), rowA (urow w j), .tup ((List.range w).map fun k => rowA (urow w k)), pA (qdot p t0.2 row), rowA (plusd p t0.2 row w), rowA (minusd p t0.2 row w), rowA (t0.2.map fun y => qtimes p x y), .tup ((one.map fun r => qdot p r row).map pA), rowA (mixd p wr one w), rowA (zrow w), rowA (mixd p wr one w), .tup (one.map fun r => rowA (mixd p r other f)), .tup (cols other f), .tup (cols one w), .tup (addd p one two w c)] : List AV).length ≤ 1000 := by simp
    generalize ([rowA (zrow w), rowA (urow w j), .tup ((List.range w).map fun k => rowA (urow w k)), pA (qdot p t0.2 row), rowA (plusd p t0.2 row w), rowA (minusd p t0.2 row w), rowA (t0.2.map fun y => qtimes p x y), .tup ((one.map fun r => qdot p r row).map pA), rowA (mixd p wr one w), rowA (zrow w), rowA (mixd p wr one w), .tup (one.map fun r => rowA (mixd p r other f)), .tup (cols other f), .tup (cols one w), .tup (addd p one two w c)] : List AV) = TL at okz lnT ⊢
    have ei : iSq (mVar 17) [some (.ref 0), some (.int p), some (fv p), some (.int W), some (.int C), some (.int F), some (.lst (one.map rowA)), some (.lst (two.map rowA)), some (.lst (other.map rowA)), some (pA x), some (rowA wr), some (rowA row), some (.lst (T.map (·.1))), some (.str S), some (.int J), some (.lst (cols other f)), some (rowA (mixd p wr one w)), some (.lst TL), some (.ref 2), some (.ref 3), z, none, none, none, none] h = .ok (TL.map fun v => v) h := by
      rw [map_id']
      rfl
    by_cases ln : TL.length ≤ 1000
    · exact lc_map (own := [24]) (g := gNm 24) (e := e0__law_tables_right) (k := fun _ => AV.bl true) ei (fun v hv acc => ⟨_, rfl, by
        have q := (okz v hv).2
        unfold e0__law_tables_right
        generalize F__law_kinds_u4 = FF at q ⊢
        simp only [mMeth, mCall, mCons, mNil, mVar, mC, List.getElem?_cons_zero, List.getElem?_cons_succ, List.append_nil, List.cons_append, List.nil_append, List.length_cons, List.length_nil, Nat.reduceAdd, ↓reduceIte, wipeA, List.set_cons_succ, List.set_cons_zero, q]⟩) (fun _ _ => rfl) (small_len ln)
    · exact absurd lnT ln
  have fa : ∀ h, onL fAll [.lst (([rowA (zrow w), rowA (urow w j), .tup ((List.range w).map fun k => rowA (urow w k)), pA (qdot p t0.2 row), rowA (plusd p t0.2 row w), rowA (minusd p t0.2 row w), rowA (t0.2.map fun y => qtimes p x y), .tup ((one.map fun r => qdot p r row).map pA), rowA (mixd p wr one w), rowA (zrow w), rowA (mixd p wr one w), .tup (one.map fun r => rowA (mixd p r other f)), .tup (cols other f), .tup (cols one w), .tup (addd p one two w c)] : List AV).map fun _ => AV.bl true)] h = some (.bl true) := fun h => onl_all _ h
  have eqq : ∀ X Y, aEq (.lst [rowA (zrow w), rowA (urow w j), .tup ((List.range w).map fun k => rowA (urow w k)), pA (qdot p t0.2 row), rowA (plusd p t0.2 row w), rowA (minusd p t0.2 row w), rowA (t0.2.map fun y => qtimes p x y), .tup ((one.map fun r => qdot p r row).map pA), rowA (mixd p wr one w), rowA (zrow w), rowA (mixd p wr one w), .tup (one.map fun r => rowA (mixd p r other f)), .tup (cols other f), .tup (cols one w), .tup (addd p one two w c)]) (.ref 2) [A, X, some (.lst [rowA (zrow w), rowA (urow w j), .tup ((List.range w).map fun k => rowA (urow w k)), pA (qdot p t0.2 row), rowA (plusd p t0.2 row w), rowA (minusd p t0.2 row w), rowA (t0.2.map fun y => qtimes p x y), .tup ((one.map fun r => qdot p r row).map pA), rowA (mixd p wr one w), rowA (zrow w), rowA (mixd p wr one w), .tup (one.map fun r => rowA (mixd p r other f)), .tup (cols other f), .tup (cols one w), .tup (addd p one two w c)]), Y] = some (.bl true) := fun X Y => eq_lc (fun v hv => (okz v hv).1) rfl
  have at3 : ∀ X Y l, aTuple [.ref 3] [A, X, Y, some (.lst l)] = some (.tup l) := fun X Y l => aTup_r rfl
  clear okz
  simp only [hW, hC, hF, hJ]
  refine ⟨[some (.ref 0), some (.int p), some (fv p), some (.int W), some (.int C), some (.int F), some (.lst (one.map rowA)), some (.lst (two.map rowA)), some (.lst (other.map rowA)), some (pA x), some (rowA wr), some (rowA row), some (.lst (T.map (·.1))), some (.str S), some (.int J), some (.lst (cols other f)), some (rowA (mixd p wr one w)), some (.lst [rowA (zrow w), rowA (urow w j), .tup ((List.range w).map fun k => rowA (urow w k)), pA (qdot p t0.2 row), rowA (plusd p t0.2 row w), rowA (minusd p t0.2 row w), rowA (t0.2.map fun y => qtimes p x y), .tup ((one.map fun r => qdot p r row).map pA), rowA (mixd p wr one w), rowA (zrow w), rowA (mixd p wr one w), .tup (one.map fun r => rowA (mixd p r other f)), .tup (cols other f), .tup (cols one w), .tup (addd p one two w c)]), some (.ref 2), some (.ref 3), z, none, none, none, none], [none, some (.lst [rowA (zrow w), rowA (urow w j), .tup ((List.range w).map fun k => rowA (urow w k)), pA (qdot p t0.2 row), rowA (plusd p t0.2 row w), rowA (minusd p t0.2 row w), rowA (t0.2.map fun y => qtimes p x y), .tup ((one.map fun r => qdot p r row).map pA), rowA (mixd p wr one w), rowA (zrow w), rowA (mixd p wr one w), .tup (one.map fun r => rowA (mixd p r other f)), .tup (cols other f), .tup (cols one w), .tup (addd p one two w c)]), some (.lst (addd p one two w c))], ?_⟩
  unfold m2_law_tables_right
  refine (seq_nx (asg_ev (c12 _))).trans ?_
  simp only [List.set_cons_zero, List.set_cons_succ]
  refine (seq_nx (asg_ev (d := rowA (mixd p wr one w)) (h1 := [A]) ?_)).trans ?_
  · generalize mLc [20] (iR1 (mCons (mVar 3) (mNil))) (gNm 20) mYes e13__law_tables_right = M at c13 ⊢
    simp only [mCB, mCons, mNil, c13, aTup] <;> rfl
  simp only [List.set_cons_zero, List.set_cons_succ]
  refine (seq_nx (asg_ev (d := .ref 1) (h1 := [A, some (.lst [rowA (zrow w), rowA (urow w j), .tup ((List.range w).map fun k => rowA (urow w k)), pA (qdot p t0.2 row)])]) ?_)).trans ?_
  · simp only [mLstC, mLst, mExt, mApp, isLc, mCB, mOp, mMeth, mCall, mCons, mNil, mVar, mC, List.getElem?_cons_zero, List.getElem?_cons_succ, List.append_nil, List.cons_append, List.nil_append, List.length_cons, List.length_nil, Nat.reduceAdd, ↓reduceIte, sizeLine_eq, Nat.reduceLeDiff, Nat.reduceLT, List.set_cons_zero, List.set_cons_succ, aTup, q1, q2, q3, q4, a1]
  simp only [List.set_cons_zero, List.set_cons_succ]
  refine (seq_nx (asg_ev (d := .ref 2) (h1 := [A, some (.lst [rowA (zrow w), rowA (urow w j), .tup ((List.range w).map fun k => rowA (urow w k)), pA (qdot p t0.2 row)]), some (.lst [rowA (zrow w), rowA (urow w j), .tup ((List.range w).map fun k => rowA (urow w k)), pA (qdot p t0.2 row)])]) ?_)).trans ?_
  · generalize mLc [20] (iR1 (mCons (mVar 3) (mNil))) (gNm 20) mYes e11__law_tables_right = M at c15 ⊢
    simp only [mLstC, mLst, mExt, mApp, isLc, mCB, mOp, mMeth, mCall, mCons, mNil, mVar, mC, List.getElem?_cons_zero, List.getElem?_cons_succ, List.append_nil, List.cons_append, List.nil_append, List.length_cons, List.length_nil, Nat.reduceAdd, ↓reduceIte, sizeLine_eq, Nat.reduceLeDiff, Nat.reduceLT, List.set_cons_zero, List.set_cons_succ, aTup, u1, u2, u4', c15, a1]
  simp only [List.set_cons_zero, List.set_cons_succ]
  refine (seq_nx (drop_ev (d := .non) (h1 := [A, some (.lst [rowA (zrow w), rowA (urow w j), .tup ((List.range w).map fun k => rowA (urow w k)), pA (qdot p t0.2 row), rowA (plusd p t0.2 row w), rowA (minusd p t0.2 row w), rowA (t0.2.map fun y => qtimes p x y)]), some (.lst [rowA (zrow w), rowA (urow w j), .tup ((List.range w).map fun k => rowA (urow w k)), pA (qdot p t0.2 row)])]) ?_)).trans ?_
  · simp only [mLstC, mLst, mExt, mApp, isLc, mCB, mOp, mMeth, mCall, mCons, mNil, mVar, mC, List.getElem?_cons_zero, List.getElem?_cons_succ, List.append_nil, List.cons_append, List.nil_append, List.length_cons, List.length_nil, Nat.reduceAdd, ↓reduceIte, sizeLine_eq, Nat.reduceLeDiff, Nat.reduceLT, List.set_cons_zero, List.set_cons_succ, aTup, q5, q6, q7, a2]
  refine (seq_nx (drop_ev (d := .non) (h1 := [A, some (.lst [rowA (zrow w), rowA (urow w j), .tup ((List.range w).map fun k => rowA (urow w k)), pA (qdot p t0.2 row), rowA (plusd p t0.2 row w), rowA (minusd p t0.2 row w), rowA (t0.2.map fun y => qtimes p x y)]), some (.lst [rowA (zrow w), rowA (urow w j), .tup ((List.range w).map fun k => rowA (urow w k)), pA (qdot p t0.2 row), rowA (plusd p t0.2 row w)])]) ?_)).trans ?_
  · generalize mLc [20] (iR1 (mCons (mVar 3) (mNil))) (gNm 20) mYes e10__law_tables_right = M at c17 ⊢
    simp only [mLstC, mLst, mExt, mApp, isLc, mCB, mOp, mMeth, mCall, mCons, mNil, mVar, mC, List.getElem?_cons_zero, List.getElem?_cons_succ, List.append_nil, List.cons_append, List.nil_append, List.length_cons, List.length_nil, Nat.reduceAdd, ↓reduceIte, sizeLine_eq, Nat.reduceLeDiff, Nat.reduceLT, List.set_cons_zero, List.set_cons_succ, aTup, c17]
    rfl
  refine (seq_nx (drop_ev (d := .non) (h1 := [A, some (.lst [rowA (zrow w), rowA (urow w j), .tup ((List.range w).map fun k => rowA (urow w k)), pA (qdot p t0.2 row), rowA (plusd p t0.2 row w), rowA (minusd p t0.2 row w), rowA (t0.2.map fun y => qtimes p x y)]), some (.lst [rowA (zrow w), rowA (urow w j), .tup ((List.range w).map fun k => rowA (urow w k)), pA (qdot p t0.2 row), rowA (plusd p t0.2 row w), rowA (minusd p t0.2 row w)])]) ?_)).trans ?_
  · generalize mLc [20] (iR1 (mCons (mVar 3) (mNil))) (gNm 20) mYes e9__law_tables_right = M at c18 ⊢
    simp only [mLstC, mLst, mExt, mApp, isLc, mCB, mOp, mMeth, mCall, mCons, mNil, mVar, mC, List.getElem?_cons_zero, List.getElem?_cons_succ, List.append_nil, List.cons_append, List.nil_append, List.length_cons, List.length_nil, Nat.reduceAdd, ↓reduceIte, sizeLine_eq, Nat.reduceLeDiff, Nat.reduceLT, List.set_cons_zero, List.set_cons_succ, aTup, c18]
    rfl
  refine (seq_nx (drop_ev (d := .non) (h1 := [A, some (.lst [rowA (zrow w), rowA (urow w j), .tup ((List.range w).map fun k => rowA (urow w k)), pA (qdot p t0.2 row), rowA (plusd p t0.2 row w), rowA (minusd p t0.2 row w), rowA (t0.2.map fun y => qtimes p x y)]), some (.lst [rowA (zrow w), rowA (urow w j), .tup ((List.range w).map fun k => rowA (urow w k)), pA (qdot p t0.2 row), rowA (plusd p t0.2 row w), rowA (minusd p t0.2 row w), rowA (t0.2.map fun y => qtimes p x y)])]) ?_)).trans ?_
  · generalize mLc [22] (iSq (mOp aIx (mVar 6) (mC (.int 0)))) (gNm 22) mYes e8__law_tables_right = M at c19 ⊢
    simp only [mLstC, mLst, mExt, mApp, isLc, mCB, mOp, mMeth, mCall, mCons, mNil, mVar, mC, List.getElem?_cons_zero, List.getElem?_cons_succ, List.append_nil, List.cons_append, List.nil_append, List.length_cons, List.length_nil, Nat.reduceAdd, ↓reduceIte, sizeLine_eq, Nat.reduceLeDiff, Nat.reduceLT, List.set_cons_zero, List.set_cons_succ, aTup, c19]
    rfl
  refine (seq_nx (drop_ev (d := .non) (h1 := [A, some (.lst [rowA (zrow w), rowA (urow w j), .tup ((List.range w).map fun k => rowA (urow w k)), pA (qdot p t0.2 row), rowA (plusd p t0.2 row w), rowA (minusd p t0.2 row w), rowA (t0.2.map fun y => qtimes p x y), .tup ((one.map fun r => qdot p r row).map pA), rowA (mixd p wr one w), rowA (zrow w)]), some (.lst [rowA (zrow w), rowA (urow w j), .tup ((List.range w).map fun k => rowA (urow w k)), pA (qdot p t0.2 row), rowA (plusd p t0.2 row w), rowA (minusd p t0.2 row w), rowA (t0.2.map fun y => qtimes p x y)])]) ?_)).trans ?_
  · simp only [mLstC, mLst, mExt, mApp, isLc, mCB, mOp, mMeth, mCall, mCons, mNil, mVar, mC, List.getElem?_cons_zero, List.getElem?_cons_succ, List.append_nil, List.cons_append, List.nil_append, List.length_cons, List.length_nil, Nat.reduceAdd, ↓reduceIte, sizeLine_eq, Nat.reduceLeDiff, Nat.reduceLT, List.set_cons_zero, List.set_cons_succ, aTup, mTup, q8, q9, q10]
  refine (seq_nx (drop_ev (d := .non) (h1 := [A, some (.lst [rowA (zrow w), rowA (urow w j), .tup ((List.range w).map fun k => rowA (urow w k)), pA (qdot p t0.2 row), rowA (plusd p t0.2 row w), rowA (minusd p t0.2 row w), rowA (t0.2.map fun y => qtimes p x y), .tup ((one.map fun r => qdot p r row).map pA), rowA (mixd p wr one w), rowA (zrow w)]), some (.lst [rowA (zrow w), rowA (urow w j), .tup ((List.range w).map fun k => rowA (urow w k)), pA (qdot p t0.2 row), rowA (plusd p t0.2 row w), rowA (minusd p t0.2 row w), rowA (t0.2.map fun y => qtimes p x y), .tup ((one.map fun r => qdot p r row).map pA), rowA (mixd p wr one w), rowA (zrow w)])]) ?_)).trans ?_
  · generalize mLc [21] (iSq (mVar 6)) (gNm 21) mYes e7__law_tables_right = M at c21 ⊢
    simp only [mLstC, mLst, mExt, mApp, isLc, mCB, mOp, mMeth, mCall, mCons, mNil, mVar, mC, List.getElem?_cons_zero, List.getElem?_cons_succ, List.append_nil, List.cons_append, List.nil_append, List.length_cons, List.length_nil, Nat.reduceAdd, ↓reduceIte, sizeLine_eq, Nat.reduceLeDiff, Nat.reduceLT, List.set_cons_zero, List.set_cons_succ, aTup, c21, u1]
  refine (seq_nx (drop_ev (d := .non) (h1 := [A, some (.lst [rowA (zrow w), rowA (urow w j), .tup ((List.range w).map fun k => rowA (urow w k)), pA (qdot p t0.2 row), rowA (plusd p t0.2 row w), rowA (minusd p t0.2 row w), rowA (t0.2.map fun y => qtimes p x y), .tup ((one.map fun r => qdot p r row).map pA), rowA (mixd p wr one w), rowA (zrow w), rowA (mixd p wr one w), .tup (one.map fun r => rowA (mixd p r other f)), .tup (cols other f), .tup (cols one w)]), some (.lst [rowA (zrow w), rowA (urow w j), .tup ((List.range w).map fun k => rowA (urow w k)), pA (qdot p t0.2 row), rowA (plusd p t0.2 row w), rowA (minusd p t0.2 row w), rowA (t0.2.map fun y => qtimes p x y), .tup ((one.map fun r => qdot p r row).map pA), rowA (mixd p wr one w), rowA (zrow w)])]) ?_)).trans ?_
  · simp only [mLstC, mLst, mExt, mApp, isLc, mCB, mOp, mMeth, mCall, mCons, mNil, mVar, mC, List.getElem?_cons_zero, List.getElem?_cons_succ, List.append_nil, List.cons_append, List.nil_append, List.length_cons, List.length_nil, Nat.reduceAdd, ↓reduceIte, sizeLine_eq, Nat.reduceLeDiff, Nat.reduceLT, List.set_cons_zero, List.set_cons_succ, aTup, q11, q12, q13, q14]
  refine (seq_nx (drop_ev (d := .non) (h1 := [A, some (.lst [rowA (zrow w), rowA (urow w j), .tup ((List.range w).map fun k => rowA (urow w k)), pA (qdot p t0.2 row), rowA (plusd p t0.2 row w), rowA (minusd p t0.2 row w), rowA (t0.2.map fun y => qtimes p x y), .tup ((one.map fun r => qdot p r row).map pA), rowA (mixd p wr one w), rowA (zrow w), rowA (mixd p wr one w), .tup (one.map fun r => rowA (mixd p r other f)), .tup (cols other f), .tup (cols one w)]), some (.lst [rowA (zrow w), rowA (urow w j), .tup ((List.range w).map fun k => rowA (urow w k)), pA (qdot p t0.2 row), rowA (plusd p t0.2 row w), rowA (minusd p t0.2 row w), rowA (t0.2.map fun y => qtimes p x y), .tup ((one.map fun r => qdot p r row).map pA), rowA (mixd p wr one w), rowA (zrow w), rowA (mixd p wr one w), .tup (one.map fun r => rowA (mixd p r other f)), .tup (cols other f)])]) ?_)).trans ?_
  · generalize mLc [21] (iSq (mVar 6)) (gNm 21) mYes e6__law_tables_right = M at c23 ⊢
    simp only [mLstC, mLst, mExt, mApp, isLc, mCB, mOp, mMeth, mCall, mCons, mNil, mVar, mC, List.getElem?_cons_zero, List.getElem?_cons_succ, List.append_nil, List.cons_append, List.nil_append, List.length_cons, List.length_nil, Nat.reduceAdd, ↓reduceIte, sizeLine_eq, Nat.reduceLeDiff, Nat.reduceLT, List.set_cons_zero, List.set_cons_succ, aTup, c23]
  refine (seq_nx (drop_ev (d := .non) (h1 := [A, some (.lst [rowA (zrow w), rowA (urow w j), .tup ((List.range w).map fun k => rowA (urow w k)), pA (qdot p t0.2 row), rowA (plusd p t0.2 row w), rowA (minusd p t0.2 row w), rowA (t0.2.map fun y => qtimes p x y), .tup ((one.map fun r => qdot p r row).map pA), rowA (mixd p wr one w), rowA (zrow w), rowA (mixd p wr one w), .tup (one.map fun r => rowA (mixd p r other f)), .tup (cols other f), .tup (cols one w)]), some (.lst [rowA (zrow w), rowA (urow w j), .tup ((List.range w).map fun k => rowA (urow w k)), pA (qdot p t0.2 row), rowA (plusd p t0.2 row w), rowA (minusd p t0.2 row w), rowA (t0.2.map fun y => qtimes p x y), .tup ((one.map fun r => qdot p r row).map pA), rowA (mixd p wr one w), rowA (zrow w), rowA (mixd p wr one w), .tup (one.map fun r => rowA (mixd p r other f)), .tup (cols other f), .tup (cols one w)])]) ?_)).trans ?_
  · generalize mLc [20] (iR1 (mCons (mVar 3) (mNil))) (gNm 20) mYes e4__law_tables_right = M at c24 ⊢
    simp only [mLstC, mLst, mExt, mApp, isLc, mCB, mOp, mMeth, mCall, mCons, mNil, mVar, mC, List.getElem?_cons_zero, List.getElem?_cons_succ, List.append_nil, List.cons_append, List.nil_append, List.length_cons, List.length_nil, Nat.reduceAdd, ↓reduceIte, sizeLine_eq, Nat.reduceLeDiff, Nat.reduceLT, List.set_cons_zero, List.set_cons_succ, aTup, c24]
  refine (seq_nx (drop_ev (d := .non) (h1 := [A, some (.lst [rowA (zrow w), rowA (urow w j), .tup ((List.range w).map fun k => rowA (urow w k)), pA (qdot p t0.2 row), rowA (plusd p t0.2 row w), rowA (minusd p t0.2 row w), rowA (t0.2.map fun y => qtimes p x y), .tup ((one.map fun r => qdot p r row).map pA), rowA (mixd p wr one w), rowA (zrow w), rowA (mixd p wr one w), .tup (one.map fun r => rowA (mixd p r other f)), .tup (cols other f), .tup (cols one w), .tup (addd p one two w c)]), some (.lst [rowA (zrow w), rowA (urow w j), .tup ((List.range w).map fun k => rowA (urow w k)), pA (qdot p t0.2 row), rowA (plusd p t0.2 row w), rowA (minusd p t0.2 row w), rowA (t0.2.map fun y => qtimes p x y), .tup ((one.map fun r => qdot p r row).map pA), rowA (mixd p wr one w), rowA (zrow w), rowA (mixd p wr one w), .tup (one.map fun r => rowA (mixd p r other f)), .tup (cols other f), .tup (cols one w)])]) ?_)).trans ?_
  · simp only [mLstC, mLst, mExt, mApp, isLc, mCB, mOp, mMeth, mCall, mCons, mNil, mVar, mC, List.getElem?_cons_zero, List.getElem?_cons_succ, List.append_nil, List.cons_append, List.nil_append, List.length_cons, List.length_nil, Nat.reduceAdd, ↓reduceIte, sizeLine_eq, Nat.reduceLeDiff, Nat.reduceLT, List.set_cons_zero, List.set_cons_succ, aTup, q15]
  refine (seq_nx (asg_ev (d := .ref 3) (h1 := [A, some (.lst [rowA (zrow w), rowA (urow w j), .tup ((List.range w).map fun k => rowA (urow w k)), pA (qdot p t0.2 row), rowA (plusd p t0.2 row w), rowA (minusd p t0.2 row w), rowA (t0.2.map fun y => qtimes p x y), .tup ((one.map fun r => qdot p r row).map pA), rowA (mixd p wr one w), rowA (zrow w), rowA (mixd p wr one w), .tup (one.map fun r => rowA (mixd p r other f)), .tup (cols other f), .tup (cols one w), .tup (addd p one two w c)]), some (.lst [rowA (zrow w), rowA (urow w j), .tup ((List.range w).map fun k => rowA (urow w k)), pA (qdot p t0.2 row), rowA (plusd p t0.2 row w), rowA (minusd p t0.2 row w), rowA (t0.2.map fun y => qtimes p x y), .tup ((one.map fun r => qdot p r row).map pA), rowA (mixd p wr one w), rowA (zrow w), rowA (mixd p wr one w), .tup (one.map fun r => rowA (mixd p r other f)), .tup (cols other f), .tup (cols one w)]), some (.lst [])]) ?_)).trans ?_
  · simp only [mLstC, mLst, mExt, mApp, isLc, mCB, mOp, mMeth, mCall, mCons, mNil, mVar, mC, List.getElem?_cons_zero, List.getElem?_cons_succ, List.append_nil, List.cons_append, List.nil_append, List.length_cons, List.length_nil, Nat.reduceAdd, ↓reduceIte, sizeLine_eq, Nat.reduceLeDiff, Nat.reduceLT, List.set_cons_zero, List.set_cons_succ, aTup]
  simp only [List.set_cons_zero, List.set_cons_succ]
  refine (seq_nx loop).trans ?_
  refine (seq_nx (drop_ev (d := .non) (h1 := [A, some (.lst [rowA (zrow w), rowA (urow w j), .tup ((List.range w).map fun k => rowA (urow w k)), pA (qdot p t0.2 row), rowA (plusd p t0.2 row w), rowA (minusd p t0.2 row w), rowA (t0.2.map fun y => qtimes p x y), .tup ((one.map fun r => qdot p r row).map pA), rowA (mixd p wr one w), rowA (zrow w), rowA (mixd p wr one w), .tup (one.map fun r => rowA (mixd p r other f)), .tup (cols other f), .tup (cols one w), .tup (addd p one two w c)]), some (.lst [rowA (zrow w), rowA (urow w j), .tup ((List.range w).map fun k => rowA (urow w k)), pA (qdot p t0.2 row), rowA (plusd p t0.2 row w), rowA (minusd p t0.2 row w), rowA (t0.2.map fun y => qtimes p x y), .tup ((one.map fun r => qdot p r row).map pA), rowA (mixd p wr one w), rowA (zrow w), rowA (mixd p wr one w), .tup (one.map fun r => rowA (mixd p r other f)), .tup (cols other f), .tup (cols one w), .tup (addd p one two w c)]), some (.lst (addd p one two w c))]) ?_)).trans ?_
  · simp only [mLstC, mLst, mExt, mApp, isLc, mCB, mOp, mMeth, mCall, mCons, mNil, mVar, mC, List.getElem?_cons_zero, List.getElem?_cons_succ, List.append_nil, List.cons_append, List.nil_append, List.length_cons, List.length_nil, Nat.reduceAdd, ↓reduceIte, sizeLine_eq, Nat.reduceLeDiff, Nat.reduceLT, List.set_cons_zero, List.set_cons_succ, aTup, at3]
  refine (seq_nx (ρ1 := [some (.ref 0), some (.int p), some (fv p), some (.int W), some (.int C), some (.int F), some (.lst (one.map rowA)), some (.lst (two.map rowA)), some (.lst (other.map rowA)), some (pA x), some (rowA wr), some (rowA row), some (.lst (T.map (·.1))), some (.str S), some (.int J), some (.lst (cols other f)), some (rowA (mixd p wr one w)), some (.lst [rowA (zrow w), rowA (urow w j), .tup ((List.range w).map fun k => rowA (urow w k)), pA (qdot p t0.2 row), rowA (plusd p t0.2 row w), rowA (minusd p t0.2 row w), rowA (t0.2.map fun y => qtimes p x y), .tup ((one.map fun r => qdot p r row).map pA), rowA (mixd p wr one w), rowA (zrow w), rowA (mixd p wr one w), .tup (one.map fun r => rowA (mixd p r other f)), .tup (cols other f), .tup (cols one w), .tup (addd p one two w c)]), some (.ref 2), some (.ref 3), z, none, none, none, none]) (h1 := [A, none, some (.lst [rowA (zrow w), rowA (urow w j), .tup ((List.range w).map fun k => rowA (urow w k)), pA (qdot p t0.2 row), rowA (plusd p t0.2 row w), rowA (minusd p t0.2 row w), rowA (t0.2.map fun y => qtimes p x y), .tup ((one.map fun r => qdot p r row).map pA), rowA (mixd p wr one w), rowA (zrow w), rowA (mixd p wr one w), .tup (one.map fun r => rowA (mixd p r other f)), .tup (cols other f), .tup (cols one w), .tup (addd p one two w c)]), some (.lst (addd p one two w c))]) ?_).trans ?_
  · simp only [mFrz, List.getElem?_cons_zero, List.getElem?_cons_succ, List.set_cons_zero, List.set_cons_succ]
  generalize mLc [24] (iSq (mVar 17)) (gNm 24) mYes e0__law_tables_right = M at kinds ⊢
  simp only [mRet, mAndV, mLstC, mLst, mExt, mApp, isLc, mCB, mOp, mMeth, mCall, mCons, mNil, mVar, mC, List.getElem?_cons_zero, List.getElem?_cons_succ, List.append_nil, List.cons_append, List.nil_append, List.length_cons, List.length_nil, Nat.reduceAdd, ↓reduceIte, sizeLine_eq, Nat.reduceLeDiff, Nat.reduceLT, List.set_cons_zero, List.set_cons_succ, aTup, kinds, fa, eqq, s1, s2]
theorem tables_ev {p : Int} (hp : Fld p) {n : Nat} {A : Option MO} (b : Bag n [A] 0) (hn : n < 300) : ∃ A', F__law_tables_right [.ref 0, .int p, fv p] [A] = .ok (.bl true) [A'] ∧ Bag (n + 250) [A'] 0 := by
  obtain ⟨w, c, f, one, two, other, x, wr, row, T, j, S, A', D, s1, s2, b2, e1⟩ := drawn_ev hp b hn
  obtain ⟨ρ', r, e2⟩ := second_ev D hp s1 s2 A'
  refine ⟨A', ?_, b2⟩
  have run := e1.trans e2
  unfold F__law_tables_right dropF
  have run2 : noX (fnOf m__law_tables_right 25) [.ref 0, .int p, fv p] [A] = .ok (.bl true) (A' :: r) := by
    generalize m__law_tables_right = M at run
    simp only [noX, fnOf, List.map_cons, List.map_nil, List.length_cons, List.length_nil, List.cons_append, List.nil_append, Nat.reduceAdd, Nat.reduceSub, List.replicate_succ, List.replicate_zero, run]
  rw [run2]
  dsimp only
  rw [if_pos ⟨rfl, bag_drop (r := r) b2⟩]
  rfl
theorem law_ev (ns : List Int) (hn : ns.length ≤ 63) : ∃ z, F_law [.lstR (ns.map .int)] [] = .ok (.bl true) z := by
  obtain ⟨X, q1, b0⟩ := bag_ev ns hn
  generalize AV.lstR (ns.map .int) = s at q1
  obtain ⟨p, A1, q2, hp, b1⟩ := prime_ev b0 (by decide)
  obtain ⟨A2, q3, b2⟩ := tables_ev hp b1 (by decide)
  obtain ⟨A3, q4, b3⟩ := tables_ev hp b2 (by decide)
  have hf : (mAsg (mIf (mTst (mOp aEq (mVar 2) (mC (.int 0)))) (mMake "Field" 2 F_Field___init__ [.non] (mNil)) (mMake "Field" 2 F_Field___init__ [] (mCons (mVar 2) (mNil)))) (gNm 3)) [some s, some (.ref 0), some (.int p), none] [A1] = .ok .nx [some s, some (.ref 0), some (.int p), some (fv p)] [A1] := by
    rcases hp with rfl | hp
    · have q := mk_fn
      have c1 : ((0 : Int) == 0) = true := rfl
      have e : fv 0 = fld .non := rfl
      simp only [mAsg, mIf, mTst, mOp, mVar, mC, gNm, aEq_int, List.getElem?_cons_zero, List.getElem?_cons_succ, List.set_cons_zero, List.set_cons_succ, c1, ↓reduceIte, q, e]
    · have q := mk_fp hp (ρ := [some s, some (.ref 0), some (.int p), none]) rfl
      have c1 : (p == 0) = false := by simpa using pr_ne hp
      have e := fvp hp
      simp only [mAsg, mIf, mTst, mOp, mVar, mC, gNm, aEq_int, List.getElem?_cons_zero, List.getElem?_cons_succ, List.set_cons_zero, List.set_cons_succ, c1, Bool.false_eq_true, ↓reduceIte, q, e]
  have run : m_law [some s, none, none, none] [] = .ok (.rt (.bl true)) [some s, some (.ref 0), some (.int p), some (fv p)] [A3] := by
    unfold m_law
    refine (seq_nx (ρ1 := [some s, some (.ref 0), none, none]) (h1 := [X]) ?_).trans ?_
    · generalize F__law_bag = FB at q1 ⊢
      simp only [mAsg, gNm, List.set_cons_zero, List.set_cons_succ, mMeth, mCall, mCons, mNil, mVar, mC, List.getElem?_cons_zero, List.getElem?_cons_succ, List.append_nil, List.cons_append, List.nil_append, List.length_cons, List.length_nil, Nat.reduceAdd, ↓reduceIte, q1]
    refine (seq_nx (ρ1 := [some s, some (.ref 0), some (.int p), none]) (h1 := [A1]) ?_).trans ?_
    · generalize F__law_prime = FB at q2 ⊢
      simp only [mAsg, gNm, List.set_cons_zero, List.set_cons_succ, mMeth, mCall, mCons, mNil, mVar, mC, List.getElem?_cons_zero, List.getElem?_cons_succ, List.append_nil, List.cons_append, List.nil_append, List.length_cons, List.length_nil, Nat.reduceAdd, ↓reduceIte, q2]
    refine (seq_nx hf).trans ?_
    generalize F__law_tables_right = FT at q3 q4 ⊢
    simp only [mRet, mAndV, mMeth, mCall, mCons, mNil, mVar, mC, List.getElem?_cons_zero, List.getElem?_cons_succ, List.append_nil, List.cons_append, List.nil_append, List.length_cons, List.length_nil, Nat.reduceAdd, ↓reduceIte, q3, q4]
  refine ⟨[], ?_⟩
  unfold F_law dropF
  have run2 : noX (fnOf m_law 4) [s] [] = .ok (.bl true) [A3] := by
    generalize m_law = M at run
    simp only [noX, fnOf, List.map_cons, List.map_nil, List.length_cons, List.length_nil, List.cons_append, List.nil_append, Nat.reduceAdd, Nat.reduceSub, List.replicate_succ, List.replicate_zero, run]
  rw [run2]
  dsimp only
  rw [if_pos ⟨rfl, Nat.zero_le _, fun i mo hi _ => absurd hi (Nat.not_lt_zero i)⟩]
  rfl
end W

set_option maxRecDepth 100000
set_option maxHeartbeats 4000000
theorem room65 {k : Nat} {A : PySem.Around} (hr : Mi.RG k A) : A.units + 65 < PySem.cLine := by have := hr.un; omega
/-! printed by gen.py: the ties -/
namespace W
open PySem PySem.Spec L2 Mi
theorem sc__law_gcd : FnScope N__law_gcd ["one", "other"] (defScope s__law_gcd) := ⟨rfl, rfl, rfl, by decide +kernel, rfl, by decide +kernel, by decide +kernel⟩
theorem sc__law_kinds_u0 : FnScope N__law_kinds_u0 ["thing", "deep"] (defScope s__law_kinds_u0) := ⟨rfl, rfl, rfl, by decide +kernel, rfl, by decide +kernel, by decide +kernel⟩
theorem sc__law_unit : FnScope N__law_unit ["width", "place"] (defScope s__law_unit) := ⟨rfl, rfl, rfl, by decide +kernel, rfl, by decide +kernel, by decide +kernel⟩
theorem sc_turned : FnScope N_turned ["table"] (defScope s_turned) := ⟨rfl, rfl, rfl, by decide +kernel, rfl, by decide +kernel, by decide +kernel⟩
theorem sc_lowest : FnScope N_lowest ["top", "bottom"] (defScope s_lowest) := ⟨rfl, rfl, rfl, by decide +kernel, rfl, by decide +kernel, by decide +kernel⟩
theorem sc_zero_row : FnScope N_zero_row ["width"] (defScope s_zero_row) := ⟨rfl, rfl, rfl, by decide +kernel, rfl, by decide +kernel, by decide +kernel⟩
theorem sc__law_zero : FnScope N__law_zero ["width"] (defScope s__law_zero) := ⟨rfl, rfl, rfl, by decide +kernel, rfl, by decide +kernel, by decide +kernel⟩
theorem sc_unit_row : FnScope N_unit_row ["width", "place"] (defScope s_unit_row) := ⟨rfl, rfl, rfl, by decide +kernel, rfl, by decide +kernel, by decide +kernel⟩
theorem sc__law_draw : FnScope N__law_draw ["bag", "limit"] (defScope s__law_draw) := ⟨rfl, rfl, rfl, by decide +kernel, rfl, by decide +kernel, by decide +kernel⟩
theorem sc_is_prime : FnScope N_is_prime ["many"] (defScope s_is_prime) := ⟨rfl, rfl, rfl, by decide +kernel, rfl, by decide +kernel, by decide +kernel⟩
theorem sc_is_whole : FnScope N_is_whole ["thing", "low", "high"] (defScope s_is_whole) := ⟨rfl, rfl, rfl, by decide +kernel, rfl, by decide +kernel, by decide +kernel⟩
theorem sc__law_bag : FnScope N__law_bag ["script"] (defScope s__law_bag) := ⟨rfl, rfl, rfl, by decide +kernel, rfl, by decide +kernel, by decide +kernel⟩
theorem sc__law_make : FnScope N__law_make ["p", "top", "bottom"] (defScope s__law_make) := ⟨rfl, rfl, rfl, by decide +kernel, rfl, by decide +kernel, by decide +kernel⟩
theorem sc__law_kinds_u1 : FnScope N__law_kinds_u1 ["thing", "deep"] (defScope s__law_kinds_u1) := ⟨rfl, rfl, rfl, by decide +kernel, rfl, by decide +kernel, by decide +kernel⟩
theorem sc_ratio_times : FnScope N_ratio_times ["one", "other"] (defScope s_ratio_times) := ⟨rfl, rfl, rfl, by decide +kernel, rfl, by decide +kernel, by decide +kernel⟩
theorem sc_ratio_plus : FnScope N_ratio_plus ["one", "other"] (defScope s_ratio_plus) := ⟨rfl, rfl, rfl, by decide +kernel, rfl, by decide +kernel, by decide +kernel⟩
theorem sc_ratio_minus : FnScope N_ratio_minus ["one", "other"] (defScope s_ratio_minus) := ⟨rfl, rfl, rfl, by decide +kernel, rfl, by decide +kernel, by decide +kernel⟩
theorem sc_unit_table : FnScope N_unit_table ["width"] (defScope s_unit_table) := ⟨rfl, rfl, rfl, by decide +kernel, rfl, by decide +kernel, by decide +kernel⟩
theorem sc__law_list : FnScope N__law_list ["bag", "row"] (defScope s__law_list) := ⟨rfl, rfl, rfl, by decide +kernel, rfl, by decide +kernel, by decide +kernel⟩
theorem sc_Field___init__ : FnScope N_Field___init__ ["self", "prime"] (defScope s_Field___init__) := ⟨rfl, rfl, rfl, by decide +kernel, rfl, by decide +kernel, by decide +kernel⟩
theorem sc__law_prime : FnScope N__law_prime ["bag"] (defScope s__law_prime) := ⟨rfl, rfl, rfl, by decide +kernel, rfl, by decide +kernel, by decide +kernel⟩
theorem sc__law_times : FnScope N__law_times ["p", "one", "other"] (defScope s__law_times) := ⟨rfl, rfl, rfl, by decide +kernel, rfl, by decide +kernel, by decide +kernel⟩
theorem sc__law_plus : FnScope N__law_plus ["p", "one", "other"] (defScope s__law_plus) := ⟨rfl, rfl, rfl, by decide +kernel, rfl, by decide +kernel, by decide +kernel⟩
theorem sc__law_kinds_u2 : FnScope N__law_kinds_u2 ["thing", "deep"] (defScope s__law_kinds_u2) := ⟨rfl, rfl, rfl, by decide +kernel, rfl, by decide +kernel, by decide +kernel⟩
theorem sc_Field_times : FnScope N_Field_times ["self", "one", "other"] (defScope s_Field_times) := ⟨rfl, rfl, rfl, by decide +kernel, rfl, by decide +kernel, by decide +kernel⟩
theorem sc_Field_plus : FnScope N_Field_plus ["self", "one", "other"] (defScope s_Field_plus) := ⟨rfl, rfl, rfl, by decide +kernel, rfl, by decide +kernel, by decide +kernel⟩
theorem sc_Field_minus : FnScope N_Field_minus ["self", "one", "other"] (defScope s_Field_minus) := ⟨rfl, rfl, rfl, by decide +kernel, rfl, by decide +kernel, by decide +kernel⟩
theorem sc__law_number : FnScope N__law_number ["bag", "p"] (defScope s__law_number) := ⟨rfl, rfl, rfl, by decide +kernel, rfl, by decide +kernel, by decide +kernel⟩
theorem sc__law_dot : FnScope N__law_dot ["p", "one", "other"] (defScope s__law_dot) := ⟨rfl, rfl, rfl, by decide +kernel, rfl, by decide +kernel, by decide +kernel⟩
theorem sc__law_kinds_u3 : FnScope N__law_kinds_u3 ["thing", "deep"] (defScope s__law_kinds_u3) := ⟨rfl, rfl, rfl, by decide +kernel, rfl, by decide +kernel, by decide +kernel⟩
theorem sc__law_minus : FnScope N__law_minus ["p", "one", "other"] (defScope s__law_minus) := ⟨rfl, rfl, rfl, by decide +kernel, rfl, by decide +kernel, by decide +kernel⟩
theorem sc_row_times : FnScope N_row_times ["field", "number", "row"] (defScope s_row_times) := ⟨rfl, rfl, rfl, by decide +kernel, rfl, by decide +kernel, by decide +kernel⟩
theorem sc_row_plus : FnScope N_row_plus ["field", "one", "other"] (defScope s_row_plus) := ⟨rfl, rfl, rfl, by decide +kernel, rfl, by decide +kernel, by decide +kernel⟩
theorem sc_dot : FnScope N_dot ["field", "one", "other"] (defScope s_dot) := ⟨rfl, rfl, rfl, by decide +kernel, rfl, by decide +kernel, by decide +kernel⟩
theorem sc_row_minus : FnScope N_row_minus ["field", "one", "other"] (defScope s_row_minus) := ⟨rfl, rfl, rfl, by decide +kernel, rfl, by decide +kernel, by decide +kernel⟩
theorem sc__law_row : FnScope N__law_row ["bag", "p", "width"] (defScope s__law_row) := ⟨rfl, rfl, rfl, by decide +kernel, rfl, by decide +kernel, by decide +kernel⟩
theorem sc__law_kinds_u4 : FnScope N__law_kinds_u4 ["thing", "deep"] (defScope s__law_kinds_u4) := ⟨rfl, rfl, rfl, by decide +kernel, rfl, by decide +kernel, by decide +kernel⟩
theorem sc_row_table : FnScope N_row_table ["field", "row", "table", "width"] (defScope s_row_table) := ⟨rfl, rfl, rfl, by decide +kernel, rfl, by decide +kernel, by decide +kernel⟩
theorem sc_table_row : FnScope N_table_row ["field", "table", "row"] (defScope s_table_row) := ⟨rfl, rfl, rfl, by decide +kernel, rfl, by decide +kernel, by decide +kernel⟩
theorem sc_table_plus : FnScope N_table_plus ["field", "one", "other"] (defScope s_table_plus) := ⟨rfl, rfl, rfl, by decide +kernel, rfl, by decide +kernel, by decide +kernel⟩
theorem sc_table_table : FnScope N_table_table ["field", "one", "other"] (defScope s_table_table) := ⟨rfl, rfl, rfl, by decide +kernel, rfl, by decide +kernel, by decide +kernel⟩
theorem sc__law_tables_right : FnScope N__law_tables_right ["bag", "p", "field"] (defScope s__law_tables_right) := ⟨rfl, rfl, rfl, by decide +kernel, rfl, by decide +kernel, by decide +kernel⟩
theorem sc_law : FnScope N_law ["script"] (defScope s_law) := ⟨rfl, rfl, rfl, by decide +kernel, rfl, by decide +kernel, by decide +kernel⟩
def d__law_gcd : He.DefD := ⟨("_law_gcd", none), "_law_gcd", "_law_gcd", defArgs s__law_gcd, defBody s__law_gcd, defScope s__law_gcd, [], []⟩
def d__law_kinds_u0 : He.DefD := ⟨("_law_kinds", none), "_law_kinds", "_law_kinds", defArgs s__law_kinds_u0, defBody s__law_kinds_u0, defScope s__law_kinds_u0, [], []⟩
def d__law_unit : He.DefD := ⟨("_law_unit", none), "_law_unit", "_law_unit", defArgs s__law_unit, defBody s__law_unit, defScope s__law_unit, [], []⟩
def d_turned : He.DefD := ⟨("turned", none), "turned", "turned", defArgs s_turned, defBody s_turned, defScope s_turned, [], []⟩
def d_lowest : He.DefD := ⟨("lowest", none), "lowest", "lowest", defArgs s_lowest, defBody s_lowest, defScope s_lowest, [], []⟩
def d_zero_row : He.DefD := ⟨("zero_row", none), "zero_row", "zero_row", defArgs s_zero_row, defBody s_zero_row, defScope s_zero_row, [], []⟩
def d__law_zero : He.DefD := ⟨("_law_zero", none), "_law_zero", "_law_zero", defArgs s__law_zero, defBody s__law_zero, defScope s__law_zero, [], []⟩
def d_unit_row : He.DefD := ⟨("unit_row", none), "unit_row", "unit_row", defArgs s_unit_row, defBody s_unit_row, defScope s_unit_row, [], []⟩
def d__law_draw : He.DefD := ⟨("_law_draw", none), "_law_draw", "_law_draw", defArgs s__law_draw, defBody s__law_draw, defScope s__law_draw, [], []⟩
def d_is_prime : He.DefD := ⟨("is_prime", none), "is_prime", "is_prime", defArgs s_is_prime, defBody s_is_prime, defScope s_is_prime, [], []⟩
def d_is_whole : He.DefD := ⟨("is_whole", none), "is_whole", "is_whole", defArgs s_is_whole, defBody s_is_whole, defScope s_is_whole, [.non, .non], []⟩
def d__law_bag : He.DefD := ⟨("_law_bag", none), "_law_bag", "_law_bag", defArgs s__law_bag, defBody s__law_bag, defScope s__law_bag, [], []⟩
def d__law_make : He.DefD := ⟨("_law_make", none), "_law_make", "_law_make", defArgs s__law_make, defBody s__law_make, defScope s__law_make, [], []⟩
def d_ratio_times : He.DefD := ⟨("ratio_times", none), "ratio_times", "ratio_times", defArgs s_ratio_times, defBody s_ratio_times, defScope s_ratio_times, [], []⟩
def d_ratio_plus : He.DefD := ⟨("ratio_plus", none), "ratio_plus", "ratio_plus", defArgs s_ratio_plus, defBody s_ratio_plus, defScope s_ratio_plus, [], []⟩
def d_ratio_minus : He.DefD := ⟨("ratio_minus", none), "ratio_minus", "ratio_minus", defArgs s_ratio_minus, defBody s_ratio_minus, defScope s_ratio_minus, [], []⟩
def d_unit_table : He.DefD := ⟨("unit_table", none), "unit_table", "unit_table", defArgs s_unit_table, defBody s_unit_table, defScope s_unit_table, [], []⟩
def d__law_list : He.DefD := ⟨("_law_list", none), "_law_list", "_law_list", defArgs s__law_list, defBody s__law_list, defScope s__law_list, [], []⟩
def d_Field___init__ : He.DefD := ⟨("Field", some "__init__"), "__init__", "Field.__init__", defArgs s_Field___init__, defBody s_Field___init__, defScope s_Field___init__, [.non], []⟩
def d__law_prime : He.DefD := ⟨("_law_prime", none), "_law_prime", "_law_prime", defArgs s__law_prime, defBody s__law_prime, defScope s__law_prime, [], []⟩
def d__law_times : He.DefD := ⟨("_law_times", none), "_law_times", "_law_times", defArgs s__law_times, defBody s__law_times, defScope s__law_times, [], []⟩
def d__law_plus : He.DefD := ⟨("_law_plus", none), "_law_plus", "_law_plus", defArgs s__law_plus, defBody s__law_plus, defScope s__law_plus, [], []⟩
def d_Field_times : He.DefD := ⟨("Field", some "times"), "times", "Field.times", defArgs s_Field_times, defBody s_Field_times, defScope s_Field_times, [], []⟩
def d_Field_plus : He.DefD := ⟨("Field", some "plus"), "plus", "Field.plus", defArgs s_Field_plus, defBody s_Field_plus, defScope s_Field_plus, [], []⟩
def d_Field_minus : He.DefD := ⟨("Field", some "minus"), "minus", "Field.minus", defArgs s_Field_minus, defBody s_Field_minus, defScope s_Field_minus, [], []⟩
def d__law_number : He.DefD := ⟨("_law_number", none), "_law_number", "_law_number", defArgs s__law_number, defBody s__law_number, defScope s__law_number, [], []⟩
def d__law_dot : He.DefD := ⟨("_law_dot", none), "_law_dot", "_law_dot", defArgs s__law_dot, defBody s__law_dot, defScope s__law_dot, [], []⟩
def d__law_minus : He.DefD := ⟨("_law_minus", none), "_law_minus", "_law_minus", defArgs s__law_minus, defBody s__law_minus, defScope s__law_minus, [], []⟩
def d_row_times : He.DefD := ⟨("row_times", none), "row_times", "row_times", defArgs s_row_times, defBody s_row_times, defScope s_row_times, [], []⟩
def d_row_plus : He.DefD := ⟨("row_plus", none), "row_plus", "row_plus", defArgs s_row_plus, defBody s_row_plus, defScope s_row_plus, [], []⟩
def d_dot : He.DefD := ⟨("dot", none), "dot", "dot", defArgs s_dot, defBody s_dot, defScope s_dot, [], []⟩
def d_row_minus : He.DefD := ⟨("row_minus", none), "row_minus", "row_minus", defArgs s_row_minus, defBody s_row_minus, defScope s_row_minus, [], []⟩
def d__law_row : He.DefD := ⟨("_law_row", none), "_law_row", "_law_row", defArgs s__law_row, defBody s__law_row, defScope s__law_row, [], []⟩
def d_row_table : He.DefD := ⟨("row_table", none), "row_table", "row_table", defArgs s_row_table, defBody s_row_table, defScope s_row_table, [.non], []⟩
def d_table_row : He.DefD := ⟨("table_row", none), "table_row", "table_row", defArgs s_table_row, defBody s_table_row, defScope s_table_row, [], []⟩
def d_table_plus : He.DefD := ⟨("table_plus", none), "table_plus", "table_plus", defArgs s_table_plus, defBody s_table_plus, defScope s_table_plus, [], []⟩
def d_table_table : He.DefD := ⟨("table_table", none), "table_table", "table_table", defArgs s_table_table, defBody s_table_table, defScope s_table_table, [], []⟩
def d__law_tables_right : He.DefD := ⟨("_law_tables_right", none), "_law_tables_right", "_law_tables_right", defArgs s__law_tables_right, defBody s__law_tables_right, defScope s__law_tables_right, [], []⟩
def d_law : He.DefD := ⟨("law", none), "law", "law", defArgs s_law, defBody s_law, defScope s_law, [], []⟩
def fn : List He.DefD := [d__law_gcd, d__law_kinds_u0, d__law_unit, d_turned, d_lowest, d_zero_row, d__law_zero, d_unit_row, d__law_draw, d_is_prime, d_is_whole, d__law_bag, d__law_make, d_ratio_times, d_ratio_plus, d_ratio_minus, d_unit_table, d__law_list, d_Field___init__, d__law_prime, d__law_times, d__law_plus, d_Field_times, d_Field_plus, d_Field_minus, d__law_number, d__law_dot, d__law_minus, d_row_times, d_row_plus, d_dot, d_row_minus, d__law_row, d_row_table, d_table_row, d_table_plus, d_table_table, d__law_tables_right, d_law]
def fa : List He.Fa := [.free "int",
  .free "range",
  .free "tuple",
  .free "len",
  .free "isinstance",
  .free "bool",
  .free "abs",
  .glo "_law_gcd",
  .free "str",
  .glo "_law_kinds",
  .free "all",
  .glo "lowest",
  .glo "unit_row",
  .glo "_law_draw",
  .free "list",
  .cls "Field",
  .noat "Field" "prime",
  .glo "is_whole",
  .glo "is_prime",
  .glo "_law_make",
  .glo "ratio_times",
  .glo "ratio_plus",
  .glo "ratio_minus",
  .glo "_law_times",
  .glo "_law_plus",
  .meth "Field" "times",
  .free "zip",
  .meth "Field" "plus",
  .meth "Field" "minus",
  .glo "_law_number",
  .glo "row_times",
  .glo "row_plus",
  .glo "zero_row",
  .glo "dot",
  .glo "row_table",
  .free "repr",
  .glo "table_plus",
  .glo "_law_dot",
  .glo "turned",
  .glo "table_table",
  .glo "_law_zero",
  .glo "table_row",
  .glo "_law_minus",
  .glo "row_minus",
  .glo "_law_unit",
  .glo "unit_table",
  .glo "_law_list",
  .glo "_law_row",
  .glo "_law_tables_right",
  .mkr "Field",
  .glo "Field",
  .glo "_law_prime",
  .glo "_law_bag",
  .glo "law"]
def xf : List XFa := [.blt "gcd" "math.gcd",
  .tup "ZERO" [.int 0, .int 1],
  .tup "ONE" [.int 1, .int 1]]
section
variable {P : Program} {w : World} {K : PySem.W.Frag} {mg : Str → Option Value} {base : Heap}
theorem fk__law_gcd (T : TX fa fn xf K mg) : ∃ fd, FunD K "_law_gcd" "_law_gcd" (defArgs s__law_gcd) (defBody s__law_gcd) (defScope s__law_gcd) [] [] (He.ga K "_law_gcd") fd ∧ FnKG P w K mg base 2 (He.ga K "_law_gcd") fd ["one", "other"] F__law_gcd := by
  obtain ⟨fd, F⟩ := T.c.1.def_ 0 (d := d__law_gcd) rfl
  refine ⟨fd, F, gfn_ok (N := N__law_gcd) (m := m__law_gcd) F sc__law_gcd fun cdv A outer s H E hr => ?_⟩
  exact (sm_cons (st_while PassesOwn.never (tm_cmp (op_neD (hr.units)) sr_ne (em_var 1) em_int) (sm_one (st_par 0 1 rfl sc__law_gcd.nd (am_cons (em_var 1) (am_cons (em_op op_modN sr_mod (em_Ty call_int1 sc_int rfl (T.free 0) (by decide +kernel) (am_cons (em_var 0) am_nil)) (em_var 1)) am_nil)))))
      (sm_one (st_ret (em_var 0))))
theorem df__law_gcd_2 (T : TX fa fn xf K mg) : DfG P w K mg base 2 (He.ga K "_law_gcd") 2 0 [] F__law_gcd := by
  obtain ⟨fd, F, OK⟩ := fk__law_gcd T
  exact ⟨⟨fd, ["one", "other"], [], [], rfl, OK, F.bindsN (fun _ _ _ _ _ _ us hl => match us, hl with | [_, _], _ => rfl), .nil, fun _ _ => RL.nil⟩, F.kp⟩
theorem fk__law_kinds_u0 (T : TX fa fn xf K mg) : ∃ fd, FunD K "_law_kinds" "_law_kinds" (defArgs s__law_kinds_u0) (defBody s__law_kinds_u0) (defScope s__law_kinds_u0) [] [] (He.ga K "_law_kinds") fd ∧ FnKG P w K mg base 2 (He.ga K "_law_kinds") fd ["thing", "deep"] F__law_kinds_u0 := by
  obtain ⟨fd, F⟩ := T.c.1.def_ 1 (d := d__law_kinds_u0) rfl
  exact ⟨fd, F, gfn_bad⟩
theorem df__law_kinds_u0_2 (T : TX fa fn xf K mg) : DfG P w K mg base 2 (He.ga K "_law_kinds") 2 0 [] F__law_kinds_u0 := by
  obtain ⟨fd, F, OK⟩ := fk__law_kinds_u0 T
  exact ⟨⟨fd, ["thing", "deep"], [], [], rfl, OK, F.bindsN (fun _ _ _ _ _ _ us hl => match us, hl with | [_, _], _ => rfl), .nil, fun _ _ => RL.nil⟩, F.kp⟩
theorem fk__law_unit (T : TX fa fn xf K mg) : ∃ fd, FunD K "_law_unit" "_law_unit" (defArgs s__law_unit) (defBody s__law_unit) (defScope s__law_unit) [] [] (He.ga K "_law_unit") fd ∧ FnKG P w K mg base 2 (He.ga K "_law_unit") fd ["width", "place"] F__law_unit := by
  obtain ⟨fd, F⟩ := T.c.1.def_ 2 (d := d__law_unit) rfl
  refine ⟨fd, F, gfn_ok (N := N__law_unit) (m := m__law_unit) F sc__law_unit fun cdv A outer s H E hr => ?_⟩
  exact (sm_one (st_ret (em_Ty call_tuple_of sc_tuple rfl (T.free 2) (by decide +kernel) (am_cons (em_lc (own := [("k", 2)]) rfl sc__law_unit.nd (blkOk_by (N := N__law_unit) (sc := defScope s__law_unit) (by decide +kernel)) (im_r1 (T.free 1) (am_cons (em_var 0) am_nil)) (fun _ _ _ _ _ => (go_nm 2 sc__law_unit.nd)) (fun _ _ _ _ _ => tsm_nil) (fun _ _ _ _ _ => (em_ifx (tm_cmp (op_eqD (hr.units)) sr_eq (em_var 2) (em_var 1)) (em_tup (am_cons em_int (am_cons em_int am_nil))) (em_tup (am_cons em_int (am_cons em_int am_nil)))))) am_nil))))
theorem df__law_unit_2 (T : TX fa fn xf K mg) : DfG P w K mg base 2 (He.ga K "_law_unit") 2 0 [] F__law_unit := by
  obtain ⟨fd, F, OK⟩ := fk__law_unit T
  exact ⟨⟨fd, ["width", "place"], [], [], rfl, OK, F.bindsN (fun _ _ _ _ _ _ us hl => match us, hl with | [_, _], _ => rfl), .nil, fun _ _ => RL.nil⟩, F.kp⟩
theorem fk_turned (T : TX fa fn xf K mg) : ∃ fd, FunD K "turned" "turned" (defArgs s_turned) (defBody s_turned) (defScope s_turned) [] [] (He.ga K "turned") fd ∧ FnKG P w K mg base 2 (He.ga K "turned") fd ["table"] F_turned := by
  obtain ⟨fd, F⟩ := T.c.1.def_ 3 (d := d_turned) rfl
  refine ⟨fd, F, gfn_ok (N := N_turned) (m := m_turned) F sc_turned fun cdv A outer s H E hr => ?_⟩
  exact (sm_one (st_ret (em_Ty call_tuple_of sc_tuple rfl (T.free 2) (by decide +kernel) (am_cons (em_lc (own := [("place", 1)]) rfl sc_turned.nd (blkOk_by (N := N_turned) (sc := defScope s_turned) (by decide +kernel)) (im_r1 (T.free 1) (am_cons (em_B call_len_seq sc_len rfl (T.free 3) (by decide +kernel) (am_cons (em_ix (em_var 0) em_int (fun _ _ => rfl)) am_nil)) am_nil)) (fun _ _ _ _ _ => (go_nm 1 sc_turned.nd)) (fun _ _ _ _ _ => tsm_nil) (fun _ _ _ _ _ => (em_Ty call_tuple_of sc_tuple rfl (T.free 2) (by decide +kernel) (am_cons (em_lc (own := [("line", 2)]) rfl sc_turned.nd (blkOk_by (by with_unfolding_all rfl)) (im_seq (em_var 0)) (fun _ _ _ _ _ => (go_nm 2 sc_turned.nd)) (fun _ _ _ _ _ => tsm_nil) (fun _ _ _ _ _ => (em_ix (em_var 2) (em_var 1) (fun _ _ => rfl)))) am_nil)))) am_nil))))
theorem df_turned_1 (T : TX fa fn xf K mg) : DfG P w K mg base 2 (He.ga K "turned") 1 0 [] F_turned := by
  obtain ⟨fd, F, OK⟩ := fk_turned T
  exact ⟨⟨fd, ["table"], [], [], rfl, OK, F.bindsN (fun _ _ _ _ _ _ us hl => match us, hl with | [_], _ => rfl), .nil, fun _ _ => RL.nil⟩, F.kp⟩
theorem fk_lowest (T : TX fa fn xf K mg) : ∃ fd, FunD K "lowest" "lowest" (defArgs s_lowest) (defBody s_lowest) (defScope s_lowest) [] [] (He.ga K "lowest") fd ∧ FnKG P w K mg base 2 (He.ga K "lowest") fd ["top", "bottom"] F_lowest := by
  obtain ⟨fd, F⟩ := T.c.1.def_ 4 (d := d_lowest) rfl
  refine ⟨fd, F, gfn_ok (N := N_lowest) (m := m_lowest) F sc_lowest fun cdv A outer s H E hr => ?_⟩
  exact (sm_cons (st_if (tm_cmp (op_eqD (hr.units)) sr_eq (em_var 1) em_int) (sm_one (st_ret (em_tup (am_cons (em_var 0) (am_cons em_int am_nil))))) sm_nil)
      (sm_cons (st_set 2 sc_lowest.nd (em_Bf cr_gcd sc_gcd rfl (T.blt 0) (am_cons (em_var 0) (am_cons (em_var 1) am_nil))))
      (sm_one (st_ret (em_tup (am_cons (em_op op_fdivX sr_fdiv (em_var 0) (em_var 2)) (am_cons (em_op op_fdivX sr_fdiv (em_var 1) (em_var 2)) am_nil)))))))
theorem df_lowest_2 (T : TX fa fn xf K mg) : DfG P w K mg base 2 (He.ga K "lowest") 2 0 [] F_lowest := by
  obtain ⟨fd, F, OK⟩ := fk_lowest T
  exact ⟨⟨fd, ["top", "bottom"], [], [], rfl, OK, F.bindsN (fun _ _ _ _ _ _ us hl => match us, hl with | [_, _], _ => rfl), .nil, fun _ _ => RL.nil⟩, F.kp⟩
theorem fk_zero_row (T : TX fa fn xf K mg) : ∃ fd, FunD K "zero_row" "zero_row" (defArgs s_zero_row) (defBody s_zero_row) (defScope s_zero_row) [] [] (He.ga K "zero_row") fd ∧ FnKG P w K mg base 2 (He.ga K "zero_row") fd ["width"] F_zero_row := by
  obtain ⟨fd, F⟩ := T.c.1.def_ 5 (d := d_zero_row) rfl
  refine ⟨fd, F, gfn_ok (N := N_zero_row) (m := m_zero_row) F sc_zero_row fun cdv A outer s H E hr => ?_⟩
  exact (sm_one (st_ret (em_Ty call_tuple_of sc_tuple rfl (T.free 2) (by decide +kernel) (am_cons (em_lc (own := [("place", 1)]) rfl sc_zero_row.nd (blkOk_by (N := N_zero_row) (sc := defScope s_zero_row) (by decide +kernel)) (im_r1 (T.free 1) (am_cons (em_var 0) am_nil)) (fun _ _ _ _ _ => (go_nm 1 sc_zero_row.nd)) (fun _ _ _ _ _ => tsm_nil) (fun _ _ _ _ _ => (em_glob (v := .ref _) (d := .tup [.int 0, .int 1]) (T.tup 1).1 rfl fun _ G => ⟨_, _, rfl, (T.tup 1).2 G, (RL.cons (x := .int 0) rfl (RL.cons (x := .int 1) rfl RL.nil))⟩))) am_nil))))
theorem df_zero_row_1 (T : TX fa fn xf K mg) : DfG P w K mg base 2 (He.ga K "zero_row") 1 0 [] F_zero_row := by
  obtain ⟨fd, F, OK⟩ := fk_zero_row T
  exact ⟨⟨fd, ["width"], [], [], rfl, OK, F.bindsN (fun _ _ _ _ _ _ us hl => match us, hl with | [_], _ => rfl), .nil, fun _ _ => RL.nil⟩, F.kp⟩
theorem fk__law_zero (T : TX fa fn xf K mg) : ∃ fd, FunD K "_law_zero" "_law_zero" (defArgs s__law_zero) (defBody s__law_zero) (defScope s__law_zero) [] [] (He.ga K "_law_zero") fd ∧ FnKG P w K mg base 2 (He.ga K "_law_zero") fd ["width"] F__law_zero := by
  obtain ⟨fd, F⟩ := T.c.1.def_ 6 (d := d__law_zero) rfl
  refine ⟨fd, F, gfn_ok (N := N__law_zero) (m := m__law_zero) F sc__law_zero fun cdv A outer s H E hr => ?_⟩
  exact (sm_one (st_ret (em_Ty call_tuple_of sc_tuple rfl (T.free 2) (by decide +kernel) (am_cons (em_lc (own := [("k", 1)]) rfl sc__law_zero.nd (blkOk_by (N := N__law_zero) (sc := defScope s__law_zero) (by decide +kernel)) (im_r1 (T.free 1) (am_cons (em_var 0) am_nil)) (fun _ _ _ _ _ => (go_nm 1 sc__law_zero.nd)) (fun _ _ _ _ _ => tsm_nil) (fun _ _ _ _ _ => (em_tup (am_cons em_int (am_cons em_int am_nil))))) am_nil))))
theorem df__law_zero_1 (T : TX fa fn xf K mg) : DfG P w K mg base 2 (He.ga K "_law_zero") 1 0 [] F__law_zero := by
  obtain ⟨fd, F, OK⟩ := fk__law_zero T
  exact ⟨⟨fd, ["width"], [], [], rfl, OK, F.bindsN (fun _ _ _ _ _ _ us hl => match us, hl with | [_], _ => rfl), .nil, fun _ _ => RL.nil⟩, F.kp⟩
theorem fk_unit_row (T : TX fa fn xf K mg) : ∃ fd, FunD K "unit_row" "unit_row" (defArgs s_unit_row) (defBody s_unit_row) (defScope s_unit_row) [] [] (He.ga K "unit_row") fd ∧ FnKG P w K mg base 2 (He.ga K "unit_row") fd ["width", "place"] F_unit_row := by
  obtain ⟨fd, F⟩ := T.c.1.def_ 7 (d := d_unit_row) rfl
  refine ⟨fd, F, gfn_ok (N := N_unit_row) (m := m_unit_row) F sc_unit_row fun cdv A outer s H E hr => ?_⟩
  exact (sm_one (st_ret (em_Ty call_tuple_of sc_tuple rfl (T.free 2) (by decide +kernel) (am_cons (em_lc (own := [("k", 2)]) rfl sc_unit_row.nd (blkOk_by (N := N_unit_row) (sc := defScope s_unit_row) (by decide +kernel)) (im_r1 (T.free 1) (am_cons (em_var 0) am_nil)) (fun _ _ _ _ _ => (go_nm 2 sc_unit_row.nd)) (fun _ _ _ _ _ => tsm_nil) (fun _ _ _ _ _ => (em_ifx (tm_cmp (op_eqD (hr.units)) sr_eq (em_var 2) (em_var 1)) (em_glob (v := .ref _) (d := .tup [.int 1, .int 1]) (T.tup 2).1 rfl fun _ G => ⟨_, _, rfl, (T.tup 2).2 G, (RL.cons (x := .int 1) rfl (RL.cons (x := .int 1) rfl RL.nil))⟩) (em_glob (v := .ref _) (d := .tup [.int 0, .int 1]) (T.tup 1).1 rfl fun _ G => ⟨_, _, rfl, (T.tup 1).2 G, (RL.cons (x := .int 0) rfl (RL.cons (x := .int 1) rfl RL.nil))⟩)))) am_nil))))
theorem df_unit_row_2 (T : TX fa fn xf K mg) : DfG P w K mg base 2 (He.ga K "unit_row") 2 0 [] F_unit_row := by
  obtain ⟨fd, F, OK⟩ := fk_unit_row T
  exact ⟨⟨fd, ["width", "place"], [], [], rfl, OK, F.bindsN (fun _ _ _ _ _ _ us hl => match us, hl with | [_, _], _ => rfl), .nil, fun _ _ => RL.nil⟩, F.kp⟩
theorem fk__law_draw (T : TX fa fn xf K mg) : ∃ fd, FunD K "_law_draw" "_law_draw" (defArgs s__law_draw) (defBody s__law_draw) (defScope s__law_draw) [] [] (He.ga K "_law_draw") fd ∧ FnKG P w K mg base 2 (He.ga K "_law_draw") fd ["bag", "limit"] F__law_draw := by
  obtain ⟨fd, F⟩ := T.c.1.def_ 8 (d := d__law_draw) rfl
  refine ⟨fd, F, gfn_ok (N := N__law_draw) (m := m__law_draw) F sc__law_draw fun cdv A outer s H E hr => ?_⟩
  exact (sm_cons (st_if (tm_cmp op_gt sr_cmp (em_ix (em_var 0) em_int (fun _ _ => rfl)) em_int) (sm_cons (st_set 2 sc__law_draw.nd (em_op op_modN sr_mod (em_Ty call_int1 sc_int rfl (T.free 0) (by decide +kernel) (am_cons (em_ix (em_var 0) em_int (fun _ _ => rfl)) am_nil)) (em_var 1)))
      (sm_cons (st_setIx (em_var 0) em_int (em_op op_fdivX sr_fdiv (em_ix (em_var 0) em_int (fun _ _ => rfl)) (em_var 1)))
      (sm_one (st_ret (em_var 2))))) sm_nil)
      (sm_cons (st_set 3 sc__law_draw.nd (em_ix (em_var 0) em_int (fun _ _ => rfl)))
      (sm_cons (st_setIx (em_var 0) em_int (em_op op_addX sr_add (em_var 3) em_int))
      (sm_cons (st_set 4 sc__law_draw.nd (em_ix (em_var 0) em_int (fun _ _ => rfl)))
      (sm_cons (st_set 5 sc__law_draw.nd (em_ix (em_var 4) (em_op op_modN sr_mod (em_Ty call_int1 sc_int rfl (T.free 0) (by decide +kernel) (am_cons (em_var 3) am_nil)) (em_B call_len_seq sc_len rfl (T.free 3) (by decide +kernel) (am_cons (em_var 4) am_nil))) (fun _ _ => rfl)))
      (sm_cons (st_if (tm_w (wm_and (tm_cmp op_lt sr_cmp (em_var 3) (em_B call_len_seq sc_len rfl (T.free 3) (by decide +kernel) (am_cons (em_var 4) am_nil))) (wm_and1 (tm_cmp op_ge sr_cmp (em_var 5) (em_op op_pow sr_pow em_int em_int))))) (sm_cons (st_setIx (em_var 0) em_int (em_op op_fdivX sr_fdiv (em_var 5) (em_var 1)))
      (sm_one (st_ret (em_op op_modN sr_mod (em_Ty call_int1 sc_int rfl (T.free 0) (by decide +kernel) (am_cons (em_var 5) am_nil)) (em_var 1))))) sm_nil)
      (sm_cons (st_set 6 sc__law_draw.nd (em_op op_modN sr_mod (em_Ty call_int1 sc_int rfl (T.free 0) (by decide +kernel) (am_cons (em_op op_addX sr_add (em_op op_addX sr_add (em_op op_mulX' sr_mul (em_op op_addX sr_add (em_var 5) em_int) em_int) (em_op op_mulX' sr_mul (em_op op_mulX' sr_mul (em_var 3) (em_var 3)) em_int)) (em_op op_mulX' sr_mul (em_var 3) em_int)) am_nil)) em_int))
      (sm_cons (st_set 6 sc__law_draw.nd (em_op op_modN sr_mod (em_Ty call_int1 sc_int rfl (T.free 0) (by decide +kernel) (am_cons (em_op op_addX sr_add (em_op op_mulX' sr_mul (em_var 6) em_int) (em_op op_mulX' sr_mul (em_op op_addX sr_add (em_var 3) em_int) em_int)) am_nil)) em_int))
      (sm_one (st_ret (em_op op_modN sr_mod (em_Ty call_int1 sc_int rfl (T.free 0) (by decide +kernel) (am_cons (em_op op_fdivX sr_fdiv (em_var 6) em_int) am_nil)) (em_var 1))))))))))))
theorem df__law_draw_2 (T : TX fa fn xf K mg) : DfG P w K mg base 2 (He.ga K "_law_draw") 2 0 [] F__law_draw := by
  obtain ⟨fd, F, OK⟩ := fk__law_draw T
  exact ⟨⟨fd, ["bag", "limit"], [], [], rfl, OK, F.bindsN (fun _ _ _ _ _ _ us hl => match us, hl with | [_, _], _ => rfl), .nil, fun _ _ => RL.nil⟩, F.kp⟩
theorem fk_is_prime (T : TX fa fn xf K mg) : ∃ fd, FunD K "is_prime" "is_prime" (defArgs s_is_prime) (defBody s_is_prime) (defScope s_is_prime) [] [] (He.ga K "is_prime") fd ∧ FnKG P w K mg base 2 (He.ga K "is_prime") fd ["many"] F_is_prime := by
  obtain ⟨fd, F⟩ := T.c.1.def_ 9 (d := d_is_prime) rfl
  refine ⟨fd, F, gfn_ok (N := N_is_prime) (m := m_is_prime) F sc_is_prime fun cdv A outer s H E hr => ?_⟩
  exact (sm_cons (st_for PassesOwn.never rfl (im_r2 (T.free 1) (am_cons em_int (am_cons (em_var 0) am_nil))) (gm_nm 1 sc_is_prime.nd) (sm_one (st_if (tm_cmp (op_eqD (hr.units)) sr_eq (em_op op_modN sr_mod (em_var 0) (em_var 1)) em_int) (sm_one (st_ret em_bl)) sm_nil)))
      (sm_one (st_ret em_bl)))
theorem df_is_prime_1 (T : TX fa fn xf K mg) : DfG P w K mg base 2 (He.ga K "is_prime") 1 0 [] F_is_prime := by
  obtain ⟨fd, F, OK⟩ := fk_is_prime T
  exact ⟨⟨fd, ["many"], [], [], rfl, OK, F.bindsN (fun _ _ _ _ _ _ us hl => match us, hl with | [_], _ => rfl), .nil, fun _ _ => RL.nil⟩, F.kp⟩
theorem fk_is_whole (T : TX fa fn xf K mg) : ∃ fd, FunD K "is_whole" "is_whole" (defArgs s_is_whole) (defBody s_is_whole) (defScope s_is_whole) [.non, .non] [] (He.ga K "is_whole") fd ∧ FnKG P w K mg base 2 (He.ga K "is_whole") fd ["thing", "low", "high"] F_is_whole := by
  obtain ⟨fd, F⟩ := T.c.1.def_ 10 (d := d_is_whole) rfl
  refine ⟨fd, F, gfn_ok (N := N_is_whole) (m := m_is_whole) F sc_is_whole fun cdv A outer s H E hr => ?_⟩
  exact (sm_cons (st_if (tm_w (wm_or (tm_not (tm_tru (em_B call_isi (sc_isi "int") rfl (T.free 4) (by decide +kernel) (am_cons (em_var 0) (am_cons (em_ty rfl (T.free 0) (by decide +kernel)) am_nil))))) (wm_or1 (tm_tru (em_B call_isi (sc_isi "bool") rfl (T.free 4) (by decide +kernel) (am_cons (em_var 0) (am_cons (em_ty rfl (T.free 5) (by decide +kernel)) am_nil))))))) (sm_one (st_ret em_bl)) sm_nil)
      (sm_one (st_ret (em_and (em_or (em_cmp op_isX sr_is (em_var 1) em_non) (em_one (em_cmp op_ge sr_cmp (em_var 0) (em_var 1)))) (em_one (em_or (em_cmp op_isX sr_is (em_var 2) em_non) (em_one (em_cmp op_le sr_cmp (em_var 0) (em_var 2)))))))))
theorem df_is_whole_3 (T : TX fa fn xf K mg) : DfG P w K mg base 2 (He.ga K "is_whole") 3 0 [] F_is_whole := by
  obtain ⟨fd, F, OK⟩ := fk_is_whole T
  obtain ⟨ds, hv, hb⟩ := F.binds1 (ps := ["thing", "low", "high"]) 3 2 (List.cons_ne_nil _ _) rfl (fun T kV doc pm an cdv ct us its hl hl2 => match us, its, hl, hl2 with | [_, _, _], [_, _], _, _ => ⟨_, rfl, rfl⟩)
  exact ⟨⟨fd, ["thing", "low", "high"], _, ds, rfl, OK, hb, hv, fun _ _ => RL.nil⟩, F.kp⟩
theorem fk__law_bag (T : TX fa fn xf K mg) : ∃ fd, FunD K "_law_bag" "_law_bag" (defArgs s__law_bag) (defBody s__law_bag) (defScope s__law_bag) [] [] (He.ga K "_law_bag") fd ∧ FnKG P w K mg base 2 (He.ga K "_law_bag") fd ["script"] F__law_bag := by
  obtain ⟨fd, F⟩ := T.c.1.def_ 11 (d := d__law_bag) rfl
  refine ⟨fd, F, gfn_ok (N := N__law_bag) (m := m__law_bag) F sc__law_bag fun cdv A outer s H E hr => ?_⟩
  exact (sm_cons (st_setLc 1 (own := [("cell", 2)]) rfl sc__law_bag.nd (blkOk_by (N := N__law_bag) (sc := defScope s__law_bag) (by decide +kernel)) (sw_true rfl rfl rfl (by decide +kernel)) (im_seq (em_sl (em_var 0) om_none (om_some em_int))) (fun _ _ _ _ _ => (go_nm 2 sc__law_bag.nd)) (fun _ _ _ _ _ => tsm_nil) (fun _ _ _ _ _ => (em_B call_abs sc_abs rfl (T.free 6) (by decide +kernel) (am_cons (em_var 2) am_nil))))
      (sm_cons (st_if (tm_cmp (op_eqD (hr.units)) sr_eq (em_B call_len_seq sc_len rfl (T.free 3) (by decide +kernel) (am_cons (em_var 1) am_nil)) em_int) (sm_one (st_set 1 sc__law_bag.nd (em_lst (am_cons em_int am_nil)))) sm_nil)
      (sm_one (st_ret (em_lstC (am_cons (em_var 1) (am_cons em_int (am_cons em_int am_nil))))))))
theorem df__law_bag_1 (T : TX fa fn xf K mg) : DfG P w K mg base 2 (He.ga K "_law_bag") 1 0 [] F__law_bag := by
  obtain ⟨fd, F, OK⟩ := fk__law_bag T
  exact ⟨⟨fd, ["script"], [], [], rfl, OK, F.bindsN (fun _ _ _ _ _ _ us hl => match us, hl with | [_], _ => rfl), .nil, fun _ _ => RL.nil⟩, F.kp⟩
theorem fk__law_make (T : TX fa fn xf K mg) : ∃ fd, FunD K "_law_make" "_law_make" (defArgs s__law_make) (defBody s__law_make) (defScope s__law_make) [] [] (He.ga K "_law_make") fd ∧ FnKG P w K mg base 3 (He.ga K "_law_make") fd ["p", "top", "bottom"] F__law_make := by
  obtain ⟨fd, F⟩ := T.c.1.def_ 12 (d := d__law_make) rfl
  refine ⟨fd, F, gfn_ok (N := N__law_make) (m := m__law_make) F sc__law_make fun cdv A outer s H E hr => ?_⟩
  exact (sm_cons (st_if (tm_cmp op_gt sr_cmp (em_var 0) em_int) (sm_cons (st_set 3 sc__law_make.nd em_int)
      (sm_cons (st_for PassesOwn.never rfl (im_r1 (T.free 1) (am_cons (em_var 0) am_nil)) (gm_nm 4 sc__law_make.nd) (sm_one (st_if (tm_cmp (op_eqD (hr.units)) sr_eq (em_op op_modN sr_mod (em_Ty call_int1 sc_int rfl (T.free 0) (by decide +kernel) (am_cons (em_op op_mulX' sr_mul (em_var 2) (em_var 4)) am_nil)) (em_var 0)) em_int) (sm_one (st_set 3 sc__law_make.nd (em_var 4))) sm_nil)))
      (sm_one (st_ret (em_tup (am_cons (em_op op_modN sr_mod (em_Ty call_int1 sc_int rfl (T.free 0) (by decide +kernel) (am_cons (em_op op_mulX' sr_mul (em_var 1) (em_var 3)) am_nil)) (em_var 0)) (am_cons em_int am_nil))))))) sm_nil)
      (sm_cons (st_if (tm_cmp op_lt sr_cmp (em_var 2) em_int) (sm_one (st_par 1 2 rfl sc__law_make.nd (am_cons (em_op op_sub sr_sub em_int (em_var 1)) (am_cons (em_op op_sub sr_sub em_int (em_var 2)) am_nil)))) sm_nil)
      (sm_cons (st_set 5 sc__law_make.nd (eg_call (df__law_gcd_2 T) (hr.mono (by decide)) (T.glo 7) (am_cons (em_B call_abs sc_abs rfl (T.free 6) (by decide +kernel) (am_cons (em_var 1) am_nil)) (am_cons (em_var 2) am_nil))))
      (sm_one (st_ret (em_tup (am_cons (em_op op_fdivX sr_fdiv (em_var 1) (em_var 5)) (am_cons (em_op op_fdivX sr_fdiv (em_var 2) (em_var 5)) am_nil))))))))
theorem df__law_make_3 (T : TX fa fn xf K mg) : DfG P w K mg base 3 (He.ga K "_law_make") 3 0 [] F__law_make := by
  obtain ⟨fd, F, OK⟩ := fk__law_make T
  exact ⟨⟨fd, ["p", "top", "bottom"], [], [], rfl, OK, F.bindsN (fun _ _ _ _ _ _ us hl => match us, hl with | [_, _, _], _ => rfl), .nil, fun _ _ => RL.nil⟩, F.kp⟩
theorem fk__law_kinds_u1 (T : TX fa fn xf K mg) : ∃ fd, FunD K "_law_kinds" "_law_kinds" (defArgs s__law_kinds_u1) (defBody s__law_kinds_u1) (defScope s__law_kinds_u1) [] [] (He.ga K "_law_kinds") fd ∧ FnKG P w K mg base 3 (He.ga K "_law_kinds") fd ["thing", "deep"] F__law_kinds_u1 := by
  obtain ⟨fd, F⟩ := T.c.1.def_ 1 (d := d__law_kinds_u0) rfl
  refine ⟨fd, F, gfn_ok (N := N__law_kinds_u1) (m := m__law_kinds_u1) F sc__law_kinds_u1 fun cdv A outer s H E hr => ?_⟩
  exact (sm_cons (st_if (tm_tru (em_B call_isi (sc_isi "tuple") rfl (T.free 4) (by decide +kernel) (am_cons (em_var 0) (am_cons (em_ty rfl (T.free 2) (by decide +kernel)) am_nil)))) (sm_one (st_ret (em_and (em_cmp op_gt sr_cmp (em_var 1) em_int) (em_one (em_B (cr_all rfl) sc_all rfl (T.free 10) (by decide +kernel) (am_cons (em_lc (own := [("part", 2)]) rfl sc__law_kinds_u1.nd (blkOk_by (N := N__law_kinds_u1) (sc := defScope s__law_kinds_u1) (by decide +kernel)) (im_seq (em_var 0)) (fun _ _ _ _ _ => (go_nm 2 sc__law_kinds_u1.nd)) (fun _ _ _ _ _ => tsm_nil) (fun _ _ _ _ _ => (eg_call (df__law_kinds_u0_2 T) (hr.mono (by decide)) (T.glo 9) (am_cons (em_var 2) (am_cons (em_op op_sub sr_sub (em_var 1) em_int) am_nil))))) am_nil)))))) sm_nil)
      (sm_one (st_ret (em_or (em_cmp op_isX sr_is (em_var 0) em_non) (em_or (em_B call_isi (sc_isi "str") rfl (T.free 4) (by decide +kernel) (am_cons (em_var 0) (am_cons (em_ty rfl (T.free 8) (by decide +kernel)) am_nil))) (em_one (em_and (em_B call_isi (sc_isi "int") rfl (T.free 4) (by decide +kernel) (am_cons (em_var 0) (am_cons (em_ty rfl (T.free 0) (by decide +kernel)) am_nil))) (em_one (em_notT (em_B call_isi (sc_isi "bool") rfl (T.free 4) (by decide +kernel) (am_cons (em_var 0) (am_cons (em_ty rfl (T.free 5) (by decide +kernel)) am_nil))))))))))))
theorem df__law_kinds_u1_2 (T : TX fa fn xf K mg) : DfG P w K mg base 3 (He.ga K "_law_kinds") 2 0 [] F__law_kinds_u1 := by
  obtain ⟨fd, F, OK⟩ := fk__law_kinds_u1 T
  exact ⟨⟨fd, ["thing", "deep"], [], [], rfl, OK, F.bindsN (fun _ _ _ _ _ _ us hl => match us, hl with | [_, _], _ => rfl), .nil, fun _ _ => RL.nil⟩, F.kp⟩
theorem fk_ratio_times (T : TX fa fn xf K mg) : ∃ fd, FunD K "ratio_times" "ratio_times" (defArgs s_ratio_times) (defBody s_ratio_times) (defScope s_ratio_times) [] [] (He.ga K "ratio_times") fd ∧ FnKG P w K mg base 3 (He.ga K "ratio_times") fd ["one", "other"] F_ratio_times := by
  obtain ⟨fd, F⟩ := T.c.1.def_ 13 (d := d_ratio_times) rfl
  refine ⟨fd, F, gfn_ok (N := N_ratio_times) (m := m_ratio_times) F sc_ratio_times fun cdv A outer s H E hr => ?_⟩
  exact (sm_one (st_ret (eg_call (df_lowest_2 T) (hr.mono (by decide)) (T.glo 11) (am_cons (em_op op_mulX' sr_mul (em_ix (em_var 0) em_int (fun _ _ => rfl)) (em_ix (em_var 1) em_int (fun _ _ => rfl))) (am_cons (em_op op_mulX' sr_mul (em_ix (em_var 0) em_int (fun _ _ => rfl)) (em_ix (em_var 1) em_int (fun _ _ => rfl))) am_nil)))))
theorem df_ratio_times_2 (T : TX fa fn xf K mg) : DfG P w K mg base 3 (He.ga K "ratio_times") 2 0 [] F_ratio_times := by
  obtain ⟨fd, F, OK⟩ := fk_ratio_times T
  exact ⟨⟨fd, ["one", "other"], [], [], rfl, OK, F.bindsN (fun _ _ _ _ _ _ us hl => match us, hl with | [_, _], _ => rfl), .nil, fun _ _ => RL.nil⟩, F.kp⟩
theorem fk_ratio_plus (T : TX fa fn xf K mg) : ∃ fd, FunD K "ratio_plus" "ratio_plus" (defArgs s_ratio_plus) (defBody s_ratio_plus) (defScope s_ratio_plus) [] [] (He.ga K "ratio_plus") fd ∧ FnKG P w K mg base 3 (He.ga K "ratio_plus") fd ["one", "other"] F_ratio_plus := by
  obtain ⟨fd, F⟩ := T.c.1.def_ 14 (d := d_ratio_plus) rfl
  refine ⟨fd, F, gfn_ok (N := N_ratio_plus) (m := m_ratio_plus) F sc_ratio_plus fun cdv A outer s H E hr => ?_⟩
  exact (sm_one (st_ret (eg_call (df_lowest_2 T) (hr.mono (by decide)) (T.glo 11) (am_cons (em_op op_addX sr_add (em_op op_mulX' sr_mul (em_ix (em_var 0) em_int (fun _ _ => rfl)) (em_ix (em_var 1) em_int (fun _ _ => rfl))) (em_op op_mulX' sr_mul (em_ix (em_var 1) em_int (fun _ _ => rfl)) (em_ix (em_var 0) em_int (fun _ _ => rfl)))) (am_cons (em_op op_mulX' sr_mul (em_ix (em_var 0) em_int (fun _ _ => rfl)) (em_ix (em_var 1) em_int (fun _ _ => rfl))) am_nil)))))
theorem df_ratio_plus_2 (T : TX fa fn xf K mg) : DfG P w K mg base 3 (He.ga K "ratio_plus") 2 0 [] F_ratio_plus := by
  obtain ⟨fd, F, OK⟩ := fk_ratio_plus T
  exact ⟨⟨fd, ["one", "other"], [], [], rfl, OK, F.bindsN (fun _ _ _ _ _ _ us hl => match us, hl with | [_, _], _ => rfl), .nil, fun _ _ => RL.nil⟩, F.kp⟩
theorem fk_ratio_minus (T : TX fa fn xf K mg) : ∃ fd, FunD K "ratio_minus" "ratio_minus" (defArgs s_ratio_minus) (defBody s_ratio_minus) (defScope s_ratio_minus) [] [] (He.ga K "ratio_minus") fd ∧ FnKG P w K mg base 3 (He.ga K "ratio_minus") fd ["one", "other"] F_ratio_minus := by
  obtain ⟨fd, F⟩ := T.c.1.def_ 15 (d := d_ratio_minus) rfl
  refine ⟨fd, F, gfn_ok (N := N_ratio_minus) (m := m_ratio_minus) F sc_ratio_minus fun cdv A outer s H E hr => ?_⟩
  exact (sm_one (st_ret (eg_call (df_lowest_2 T) (hr.mono (by decide)) (T.glo 11) (am_cons (em_op op_sub sr_sub (em_op op_mulX' sr_mul (em_ix (em_var 0) em_int (fun _ _ => rfl)) (em_ix (em_var 1) em_int (fun _ _ => rfl))) (em_op op_mulX' sr_mul (em_ix (em_var 1) em_int (fun _ _ => rfl)) (em_ix (em_var 0) em_int (fun _ _ => rfl)))) (am_cons (em_op op_mulX' sr_mul (em_ix (em_var 0) em_int (fun _ _ => rfl)) (em_ix (em_var 1) em_int (fun _ _ => rfl))) am_nil)))))
theorem df_ratio_minus_2 (T : TX fa fn xf K mg) : DfG P w K mg base 3 (He.ga K "ratio_minus") 2 0 [] F_ratio_minus := by
  obtain ⟨fd, F, OK⟩ := fk_ratio_minus T
  exact ⟨⟨fd, ["one", "other"], [], [], rfl, OK, F.bindsN (fun _ _ _ _ _ _ us hl => match us, hl with | [_, _], _ => rfl), .nil, fun _ _ => RL.nil⟩, F.kp⟩
theorem fk_unit_table (T : TX fa fn xf K mg) : ∃ fd, FunD K "unit_table" "unit_table" (defArgs s_unit_table) (defBody s_unit_table) (defScope s_unit_table) [] [] (He.ga K "unit_table") fd ∧ FnKG P w K mg base 3 (He.ga K "unit_table") fd ["width"] F_unit_table := by
  obtain ⟨fd, F⟩ := T.c.1.def_ 16 (d := d_unit_table) rfl
  refine ⟨fd, F, gfn_ok (N := N_unit_table) (m := m_unit_table) F sc_unit_table fun cdv A outer s H E hr => ?_⟩
  exact (sm_one (st_ret (em_Ty call_tuple_of sc_tuple rfl (T.free 2) (by decide +kernel) (am_cons (em_lc (own := [("place", 1)]) rfl sc_unit_table.nd (blkOk_by (N := N_unit_table) (sc := defScope s_unit_table) (by decide +kernel)) (im_r1 (T.free 1) (am_cons (em_var 0) am_nil)) (fun _ _ _ _ _ => (go_nm 1 sc_unit_table.nd)) (fun _ _ _ _ _ => tsm_nil) (fun _ _ _ _ _ => (eg_call (df_unit_row_2 T) (hr.mono (by decide)) (T.glo 12) (am_cons (em_var 0) (am_cons (em_var 1) am_nil))))) am_nil))))
theorem df_unit_table_1 (T : TX fa fn xf K mg) : DfG P w K mg base 3 (He.ga K "unit_table") 1 0 [] F_unit_table := by
  obtain ⟨fd, F, OK⟩ := fk_unit_table T
  exact ⟨⟨fd, ["width"], [], [], rfl, OK, F.bindsN (fun _ _ _ _ _ _ us hl => match us, hl with | [_], _ => rfl), .nil, fun _ _ => RL.nil⟩, F.kp⟩
theorem fk__law_list (T : TX fa fn xf K mg) : ∃ fd, FunD K "_law_list" "_law_list" (defArgs s__law_list) (defBody s__law_list) (defScope s__law_list) [] [] (He.ga K "_law_list") fd ∧ FnKG P w K mg base 3 (He.ga K "_law_list") fd ["bag", "row"] F__law_list := by
  obtain ⟨fd, F⟩ := T.c.1.def_ 17 (d := d__law_list) rfl
  refine ⟨fd, F, gfn_ok (N := N__law_list) (m := m__law_list) F sc__law_list fun cdv A outer s H E hr => ?_⟩
  exact (sm_cons (st_if (tm_cmp (op_eqD (hr.units)) sr_eq (eg_call (df__law_draw_2 T) (hr.mono (by decide)) (T.glo 13) (am_cons (em_var 0) (am_cons em_int am_nil))) em_int) (sm_one (st_ret (em_Ty call_list_of sc_list rfl (T.free 14) (by decide +kernel) (am_cons (em_var 1) am_nil)))) sm_nil)
      (sm_one (st_ret (em_Ty call_tuple_of sc_tuple rfl (T.free 2) (by decide +kernel) (am_cons (em_var 1) am_nil)))))
theorem df__law_list_2 (T : TX fa fn xf K mg) : DfG P w K mg base 3 (He.ga K "_law_list") 2 0 [] F__law_list := by
  obtain ⟨fd, F, OK⟩ := fk__law_list T
  exact ⟨⟨fd, ["bag", "row"], [], [], rfl, OK, F.bindsN (fun _ _ _ _ _ _ us hl => match us, hl with | [_, _], _ => rfl), .nil, fun _ _ => RL.nil⟩, F.kp⟩
theorem fk_Field___init__ (T : TX fa fn xf K mg) : ∃ fd, FunD K "__init__" "Field.__init__" (defArgs s_Field___init__) (defBody s_Field___init__) (defScope s_Field___init__) [.non] [] (He.ma K (He.ga K "Field") "__init__") fd ∧ FnKG P w K mg base 3 (He.ma K (He.ga K "Field") "__init__") fd ["self", "prime"] F_Field___init__ := by
  obtain ⟨fd, F⟩ := T.c.1.def_ 18 (d := d_Field___init__) rfl
  refine ⟨fd, F, gfn_ok (N := N_Field___init__) (m := m_Field___init__) F sc_Field___init__ fun cdv A outer s H E hr => ?_⟩
  exact (sm_cons (st_if (tm_cmp op_isNotX sr_isNot (em_var 1) em_non) (sm_one (st_if (tm_w (wm_or (tm_not (tm_tru (eg_call (df_is_whole_3 T) (hr.mono (by decide)) (T.glo 17) (am_cons (em_var 1) (am_cons em_int (am_cons em_int am_nil)))))) (wm_or1 (tm_not (tm_tru (eg_call (df_is_prime_1 T) (hr.mono (by decide)) (T.glo 18) (am_cons (em_var 1) am_nil))))))) (sm_one st_never) sm_nil)) sm_nil)
      (sm_one (st_setAt (all1 (T.ca 15 16)) (em_var 0) (em_var 1))))
theorem df_Field___init___1 (T : TX fa fn xf K mg) : DfG P w K mg base 3 (He.ma K (He.ga K "Field") "__init__") 2 1 [.non] F_Field___init__ := by
  obtain ⟨fd, F, OK⟩ := fk_Field___init__ T
  obtain ⟨ds, hv, hb⟩ := F.binds1 (ps := ["self", "prime"]) 1 0 (List.cons_ne_nil _ _) rfl (fun T kV doc pm an cdv ct us its hl hl2 => match us, its, hl, hl2 with | [_], [_], _, _ => ⟨_, rfl, rfl⟩)
  exact ⟨⟨fd, ["self", "prime"], _, ds, rfl, OK, hb, hv, fun _ _ => (RL.cons (x := .non) rfl RL.nil)⟩, F.kp⟩
theorem df_Field___init___2 (T : TX fa fn xf K mg) : DfG P w K mg base 3 (He.ma K (He.ga K "Field") "__init__") 2 0 [] F_Field___init__ := by
  obtain ⟨fd, F, OK⟩ := fk_Field___init__ T
  obtain ⟨ds, hv, hb⟩ := F.binds1 (ps := ["self", "prime"]) 2 1 (List.cons_ne_nil _ _) rfl (fun T kV doc pm an cdv ct us its hl hl2 => match us, its, hl, hl2 with | [_, _], [_], _, _ => ⟨_, rfl, rfl⟩)
  exact ⟨⟨fd, ["self", "prime"], _, ds, rfl, OK, hb, hv, fun _ _ => RL.nil⟩, F.kp⟩
theorem fk__law_prime (T : TX fa fn xf K mg) : ∃ fd, FunD K "_law_prime" "_law_prime" (defArgs s__law_prime) (defBody s__law_prime) (defScope s__law_prime) [] [] (He.ga K "_law_prime") fd ∧ FnKG P w K mg base 3 (He.ga K "_law_prime") fd ["bag"] F__law_prime := by
  obtain ⟨fd, F⟩ := T.c.1.def_ 19 (d := d__law_prime) rfl
  refine ⟨fd, F, gfn_ok (N := N__law_prime) (m := m__law_prime) F sc__law_prime fun cdv A outer s H E hr => ?_⟩
  exact (sm_one (st_ret (em_ix (em_lst (am_cons em_int (am_cons em_int (am_cons em_int (am_cons em_int (am_cons em_int (am_cons em_int am_nil))))))) (eg_call (df__law_draw_2 T) (hr.mono (by decide)) (T.glo 13) (am_cons (em_var 0) (am_cons em_int am_nil))) (fun _ _ => rfl))))
theorem df__law_prime_1 (T : TX fa fn xf K mg) : DfG P w K mg base 3 (He.ga K "_law_prime") 1 0 [] F__law_prime := by
  obtain ⟨fd, F, OK⟩ := fk__law_prime T
  exact ⟨⟨fd, ["bag"], [], [], rfl, OK, F.bindsN (fun _ _ _ _ _ _ us hl => match us, hl with | [_], _ => rfl), .nil, fun _ _ => RL.nil⟩, F.kp⟩
theorem fk__law_times (T : TX fa fn xf K mg) : ∃ fd, FunD K "_law_times" "_law_times" (defArgs s__law_times) (defBody s__law_times) (defScope s__law_times) [] [] (He.ga K "_law_times") fd ∧ FnKG P w K mg base 4 (He.ga K "_law_times") fd ["p", "one", "other"] F__law_times := by
  obtain ⟨fd, F⟩ := T.c.1.def_ 20 (d := d__law_times) rfl
  refine ⟨fd, F, gfn_ok (N := N__law_times) (m := m__law_times) F sc__law_times fun cdv A outer s H E hr => ?_⟩
  exact (sm_cons (st_if (tm_cmp op_gt sr_cmp (em_var 0) em_int) (sm_one (st_ret (em_tup (am_cons (em_op op_modN sr_mod (em_Ty call_int1 sc_int rfl (T.free 0) (by decide +kernel) (am_cons (em_op op_mulX' sr_mul (em_ix (em_var 1) em_int (fun _ _ => rfl)) (em_ix (em_var 2) em_int (fun _ _ => rfl))) am_nil)) (em_var 0)) (am_cons em_int am_nil))))) sm_nil)
      (sm_one (st_ret (eg_call (df__law_make_3 T) (hr.mono (by decide)) (T.glo 19) (am_cons em_int (am_cons (em_op op_mulX' sr_mul (em_ix (em_var 1) em_int (fun _ _ => rfl)) (em_ix (em_var 2) em_int (fun _ _ => rfl))) (am_cons (em_op op_mulX' sr_mul (em_ix (em_var 1) em_int (fun _ _ => rfl)) (em_ix (em_var 2) em_int (fun _ _ => rfl))) am_nil)))))))
theorem df__law_times_3 (T : TX fa fn xf K mg) : DfG P w K mg base 4 (He.ga K "_law_times") 3 0 [] F__law_times := by
  obtain ⟨fd, F, OK⟩ := fk__law_times T
  exact ⟨⟨fd, ["p", "one", "other"], [], [], rfl, OK, F.bindsN (fun _ _ _ _ _ _ us hl => match us, hl with | [_, _, _], _ => rfl), .nil, fun _ _ => RL.nil⟩, F.kp⟩
theorem fk__law_plus (T : TX fa fn xf K mg) : ∃ fd, FunD K "_law_plus" "_law_plus" (defArgs s__law_plus) (defBody s__law_plus) (defScope s__law_plus) [] [] (He.ga K "_law_plus") fd ∧ FnKG P w K mg base 4 (He.ga K "_law_plus") fd ["p", "one", "other"] F__law_plus := by
  obtain ⟨fd, F⟩ := T.c.1.def_ 21 (d := d__law_plus) rfl
  refine ⟨fd, F, gfn_ok (N := N__law_plus) (m := m__law_plus) F sc__law_plus fun cdv A outer s H E hr => ?_⟩
  exact (sm_cons (st_if (tm_cmp op_gt sr_cmp (em_var 0) em_int) (sm_one (st_ret (em_tup (am_cons (em_op op_modN sr_mod (em_Ty call_int1 sc_int rfl (T.free 0) (by decide +kernel) (am_cons (em_op op_addX sr_add (em_ix (em_var 1) em_int (fun _ _ => rfl)) (em_ix (em_var 2) em_int (fun _ _ => rfl))) am_nil)) (em_var 0)) (am_cons em_int am_nil))))) sm_nil)
      (sm_one (st_ret (eg_call (df__law_make_3 T) (hr.mono (by decide)) (T.glo 19) (am_cons em_int (am_cons (em_op op_addX sr_add (em_op op_mulX' sr_mul (em_ix (em_var 1) em_int (fun _ _ => rfl)) (em_ix (em_var 2) em_int (fun _ _ => rfl))) (em_op op_mulX' sr_mul (em_ix (em_var 2) em_int (fun _ _ => rfl)) (em_ix (em_var 1) em_int (fun _ _ => rfl)))) (am_cons (em_op op_mulX' sr_mul (em_ix (em_var 1) em_int (fun _ _ => rfl)) (em_ix (em_var 2) em_int (fun _ _ => rfl))) am_nil)))))))
theorem df__law_plus_3 (T : TX fa fn xf K mg) : DfG P w K mg base 4 (He.ga K "_law_plus") 3 0 [] F__law_plus := by
  obtain ⟨fd, F, OK⟩ := fk__law_plus T
  exact ⟨⟨fd, ["p", "one", "other"], [], [], rfl, OK, F.bindsN (fun _ _ _ _ _ _ us hl => match us, hl with | [_, _, _], _ => rfl), .nil, fun _ _ => RL.nil⟩, F.kp⟩
theorem fk__law_kinds_u2 (T : TX fa fn xf K mg) : ∃ fd, FunD K "_law_kinds" "_law_kinds" (defArgs s__law_kinds_u2) (defBody s__law_kinds_u2) (defScope s__law_kinds_u2) [] [] (He.ga K "_law_kinds") fd ∧ FnKG P w K mg base 4 (He.ga K "_law_kinds") fd ["thing", "deep"] F__law_kinds_u2 := by
  obtain ⟨fd, F⟩ := T.c.1.def_ 1 (d := d__law_kinds_u0) rfl
  refine ⟨fd, F, gfn_ok (N := N__law_kinds_u2) (m := m__law_kinds_u2) F sc__law_kinds_u2 fun cdv A outer s H E hr => ?_⟩
  exact (sm_cons (st_if (tm_tru (em_B call_isi (sc_isi "tuple") rfl (T.free 4) (by decide +kernel) (am_cons (em_var 0) (am_cons (em_ty rfl (T.free 2) (by decide +kernel)) am_nil)))) (sm_one (st_ret (em_and (em_cmp op_gt sr_cmp (em_var 1) em_int) (em_one (em_B (cr_all rfl) sc_all rfl (T.free 10) (by decide +kernel) (am_cons (em_lc (own := [("part", 2)]) rfl sc__law_kinds_u2.nd (blkOk_by (N := N__law_kinds_u2) (sc := defScope s__law_kinds_u2) (by decide +kernel)) (im_seq (em_var 0)) (fun _ _ _ _ _ => (go_nm 2 sc__law_kinds_u2.nd)) (fun _ _ _ _ _ => tsm_nil) (fun _ _ _ _ _ => (eg_call (df__law_kinds_u1_2 T) (hr.mono (by decide)) (T.glo 9) (am_cons (em_var 2) (am_cons (em_op op_sub sr_sub (em_var 1) em_int) am_nil))))) am_nil)))))) sm_nil)
      (sm_one (st_ret (em_or (em_cmp op_isX sr_is (em_var 0) em_non) (em_or (em_B call_isi (sc_isi "str") rfl (T.free 4) (by decide +kernel) (am_cons (em_var 0) (am_cons (em_ty rfl (T.free 8) (by decide +kernel)) am_nil))) (em_one (em_and (em_B call_isi (sc_isi "int") rfl (T.free 4) (by decide +kernel) (am_cons (em_var 0) (am_cons (em_ty rfl (T.free 0) (by decide +kernel)) am_nil))) (em_one (em_notT (em_B call_isi (sc_isi "bool") rfl (T.free 4) (by decide +kernel) (am_cons (em_var 0) (am_cons (em_ty rfl (T.free 5) (by decide +kernel)) am_nil))))))))))))
theorem df__law_kinds_u2_2 (T : TX fa fn xf K mg) : DfG P w K mg base 4 (He.ga K "_law_kinds") 2 0 [] F__law_kinds_u2 := by
  obtain ⟨fd, F, OK⟩ := fk__law_kinds_u2 T
  exact ⟨⟨fd, ["thing", "deep"], [], [], rfl, OK, F.bindsN (fun _ _ _ _ _ _ us hl => match us, hl with | [_, _], _ => rfl), .nil, fun _ _ => RL.nil⟩, F.kp⟩
theorem fk_Field_times (T : TX fa fn xf K mg) : ∃ fd, FunD K "times" "Field.times" (defArgs s_Field_times) (defBody s_Field_times) (defScope s_Field_times) [] [] (He.ma K (He.ga K "Field") "times") fd ∧ FnKG P w K mg base 4 (He.ma K (He.ga K "Field") "times") fd ["self", "one", "other"] F_Field_times := by
  obtain ⟨fd, F⟩ := T.c.1.def_ 22 (d := d_Field_times) rfl
  refine ⟨fd, F, gfn_ok (N := N_Field_times) (m := m_Field_times) F sc_Field_times fun cdv A outer s H E hr => ?_⟩
  exact (sm_cons (st_if (tm_cmp op_isX sr_is (em_at (all1 (T.ca 15 16)) (em_var 0)) em_non) (sm_one (st_ret (eg_call (df_ratio_times_2 T) (hr.mono (by decide)) (T.glo 20) (am_cons (em_var 1) (am_cons (em_var 2) am_nil))))) sm_nil)
      (sm_one (st_ret (em_tup (am_cons (em_op op_modN sr_mod (em_op op_mulX' sr_mul (em_ix (em_var 1) em_int (fun _ _ => rfl)) (em_ix (em_var 2) em_int (fun _ _ => rfl))) (em_at (all1 (T.ca 15 16)) (em_var 0))) (am_cons em_int am_nil))))))
theorem df_Field_times_3 (T : TX fa fn xf K mg) : DfG P w K mg base 4 (He.ma K (He.ga K "Field") "times") 3 0 [] F_Field_times := by
  obtain ⟨fd, F, OK⟩ := fk_Field_times T
  exact ⟨⟨fd, ["self", "one", "other"], [], [], rfl, OK, F.bindsN (fun _ _ _ _ _ _ us hl => match us, hl with | [_, _, _], _ => rfl), .nil, fun _ _ => RL.nil⟩, F.kp⟩
theorem fk_Field_plus (T : TX fa fn xf K mg) : ∃ fd, FunD K "plus" "Field.plus" (defArgs s_Field_plus) (defBody s_Field_plus) (defScope s_Field_plus) [] [] (He.ma K (He.ga K "Field") "plus") fd ∧ FnKG P w K mg base 4 (He.ma K (He.ga K "Field") "plus") fd ["self", "one", "other"] F_Field_plus := by
  obtain ⟨fd, F⟩ := T.c.1.def_ 23 (d := d_Field_plus) rfl
  refine ⟨fd, F, gfn_ok (N := N_Field_plus) (m := m_Field_plus) F sc_Field_plus fun cdv A outer s H E hr => ?_⟩
  exact (sm_cons (st_if (tm_cmp op_isX sr_is (em_at (all1 (T.ca 15 16)) (em_var 0)) em_non) (sm_one (st_ret (eg_call (df_ratio_plus_2 T) (hr.mono (by decide)) (T.glo 21) (am_cons (em_var 1) (am_cons (em_var 2) am_nil))))) sm_nil)
      (sm_one (st_ret (em_tup (am_cons (em_op op_modN sr_mod (em_op op_addX sr_add (em_ix (em_var 1) em_int (fun _ _ => rfl)) (em_ix (em_var 2) em_int (fun _ _ => rfl))) (em_at (all1 (T.ca 15 16)) (em_var 0))) (am_cons em_int am_nil))))))
theorem df_Field_plus_3 (T : TX fa fn xf K mg) : DfG P w K mg base 4 (He.ma K (He.ga K "Field") "plus") 3 0 [] F_Field_plus := by
  obtain ⟨fd, F, OK⟩ := fk_Field_plus T
  exact ⟨⟨fd, ["self", "one", "other"], [], [], rfl, OK, F.bindsN (fun _ _ _ _ _ _ us hl => match us, hl with | [_, _, _], _ => rfl), .nil, fun _ _ => RL.nil⟩, F.kp⟩
theorem fk_Field_minus (T : TX fa fn xf K mg) : ∃ fd, FunD K "minus" "Field.minus" (defArgs s_Field_minus) (defBody s_Field_minus) (defScope s_Field_minus) [] [] (He.ma K (He.ga K "Field") "minus") fd ∧ FnKG P w K mg base 4 (He.ma K (He.ga K "Field") "minus") fd ["self", "one", "other"] F_Field_minus := by
  obtain ⟨fd, F⟩ := T.c.1.def_ 24 (d := d_Field_minus) rfl
  refine ⟨fd, F, gfn_ok (N := N_Field_minus) (m := m_Field_minus) F sc_Field_minus fun cdv A outer s H E hr => ?_⟩
  exact (sm_cons (st_if (tm_cmp op_isX sr_is (em_at (all1 (T.ca 15 16)) (em_var 0)) em_non) (sm_one (st_ret (eg_call (df_ratio_minus_2 T) (hr.mono (by decide)) (T.glo 22) (am_cons (em_var 1) (am_cons (em_var 2) am_nil))))) sm_nil)
      (sm_one (st_ret (em_tup (am_cons (em_op op_modN sr_mod (em_op op_sub sr_sub (em_ix (em_var 1) em_int (fun _ _ => rfl)) (em_ix (em_var 2) em_int (fun _ _ => rfl))) (em_at (all1 (T.ca 15 16)) (em_var 0))) (am_cons em_int am_nil))))))
theorem df_Field_minus_3 (T : TX fa fn xf K mg) : DfG P w K mg base 4 (He.ma K (He.ga K "Field") "minus") 3 0 [] F_Field_minus := by
  obtain ⟨fd, F, OK⟩ := fk_Field_minus T
  exact ⟨⟨fd, ["self", "one", "other"], [], [], rfl, OK, F.bindsN (fun _ _ _ _ _ _ us hl => match us, hl with | [_, _, _], _ => rfl), .nil, fun _ _ => RL.nil⟩, F.kp⟩
theorem fk__law_number (T : TX fa fn xf K mg) : ∃ fd, FunD K "_law_number" "_law_number" (defArgs s__law_number) (defBody s__law_number) (defScope s__law_number) [] [] (He.ga K "_law_number") fd ∧ FnKG P w K mg base 4 (He.ga K "_law_number") fd ["bag", "p"] F__law_number := by
  obtain ⟨fd, F⟩ := T.c.1.def_ 25 (d := d__law_number) rfl
  refine ⟨fd, F, gfn_ok (N := N__law_number) (m := m__law_number) F sc__law_number fun cdv A outer s H E hr => ?_⟩
  exact (sm_cons (st_if (tm_cmp op_gt sr_cmp (em_var 1) em_int) (sm_one (st_ret (em_tup (am_cons (eg_call (df__law_draw_2 T) (hr.mono (by decide)) (T.glo 13) (am_cons (em_var 0) (am_cons (em_var 1) am_nil))) (am_cons em_int am_nil))))) sm_nil)
      (sm_one (st_ret (eg_call (df__law_make_3 T) (hr.mono (by decide)) (T.glo 19) (am_cons em_int (am_cons (em_op op_sub sr_sub (eg_call (df__law_draw_2 T) (hr.mono (by decide)) (T.glo 13) (am_cons (em_var 0) (am_cons em_int am_nil))) em_int) (am_cons (em_ix (em_lst (am_cons em_int (am_cons em_int (am_cons em_int (am_cons em_int (am_cons em_int am_nil)))))) (eg_call (df__law_draw_2 T) (hr.mono (by decide)) (T.glo 13) (am_cons (em_var 0) (am_cons em_int am_nil))) (fun _ _ => rfl)) am_nil)))))))
theorem df__law_number_2 (T : TX fa fn xf K mg) : DfG P w K mg base 4 (He.ga K "_law_number") 2 0 [] F__law_number := by
  obtain ⟨fd, F, OK⟩ := fk__law_number T
  exact ⟨⟨fd, ["bag", "p"], [], [], rfl, OK, F.bindsN (fun _ _ _ _ _ _ us hl => match us, hl with | [_, _], _ => rfl), .nil, fun _ _ => RL.nil⟩, F.kp⟩
theorem fk__law_dot (T : TX fa fn xf K mg) : ∃ fd, FunD K "_law_dot" "_law_dot" (defArgs s__law_dot) (defBody s__law_dot) (defScope s__law_dot) [] [] (He.ga K "_law_dot") fd ∧ FnKG P w K mg base 5 (He.ga K "_law_dot") fd ["p", "one", "other"] F__law_dot := by
  obtain ⟨fd, F⟩ := T.c.1.def_ 26 (d := d__law_dot) rfl
  refine ⟨fd, F, gfn_ok (N := N__law_dot) (m := m__law_dot) F sc__law_dot fun cdv A outer s H E hr => ?_⟩
  exact (sm_cons (st_set 3 sc__law_dot.nd (em_tup (am_cons em_int (am_cons em_int am_nil))))
      (sm_cons (st_for PassesOwn.never rfl (im_r1 (T.free 1) (am_cons (em_B call_len_seq sc_len rfl (T.free 3) (by decide +kernel) (am_cons (em_var 1) am_nil)) am_nil)) (gm_nm 4 sc__law_dot.nd) (sm_one (st_if (tm_w (wm_and (tm_cmp (op_neD (hr.units)) sr_ne (em_ix (em_ix (em_var 1) (em_var 4) (fun _ _ => rfl)) em_int (fun _ _ => rfl)) em_int) (wm_and1 (tm_cmp (op_neD (hr.units)) sr_ne (em_ix (em_ix (em_var 2) (em_var 4) (fun _ _ => rfl)) em_int (fun _ _ => rfl)) em_int)))) (sm_one (st_set 3 sc__law_dot.nd (eg_call (df__law_plus_3 T) (hr.mono (by decide)) (T.glo 24) (am_cons (em_var 0) (am_cons (em_var 3) (am_cons (eg_call (df__law_times_3 T) (hr.mono (by decide)) (T.glo 23) (am_cons (em_var 0) (am_cons (em_ix (em_var 1) (em_var 4) (fun _ _ => rfl)) (am_cons (em_ix (em_var 2) (em_var 4) (fun _ _ => rfl)) am_nil)))) am_nil)))))) sm_nil)))
      (sm_one (st_ret (em_var 3)))))
theorem df__law_dot_3 (T : TX fa fn xf K mg) : DfG P w K mg base 5 (He.ga K "_law_dot") 3 0 [] F__law_dot := by
  obtain ⟨fd, F, OK⟩ := fk__law_dot T
  exact ⟨⟨fd, ["p", "one", "other"], [], [], rfl, OK, F.bindsN (fun _ _ _ _ _ _ us hl => match us, hl with | [_, _, _], _ => rfl), .nil, fun _ _ => RL.nil⟩, F.kp⟩
theorem fk__law_kinds_u3 (T : TX fa fn xf K mg) : ∃ fd, FunD K "_law_kinds" "_law_kinds" (defArgs s__law_kinds_u3) (defBody s__law_kinds_u3) (defScope s__law_kinds_u3) [] [] (He.ga K "_law_kinds") fd ∧ FnKG P w K mg base 5 (He.ga K "_law_kinds") fd ["thing", "deep"] F__law_kinds_u3 := by
  obtain ⟨fd, F⟩ := T.c.1.def_ 1 (d := d__law_kinds_u0) rfl
  refine ⟨fd, F, gfn_ok (N := N__law_kinds_u3) (m := m__law_kinds_u3) F sc__law_kinds_u3 fun cdv A outer s H E hr => ?_⟩
  exact (sm_cons (st_if (tm_tru (em_B call_isi (sc_isi "tuple") rfl (T.free 4) (by decide +kernel) (am_cons (em_var 0) (am_cons (em_ty rfl (T.free 2) (by decide +kernel)) am_nil)))) (sm_one (st_ret (em_and (em_cmp op_gt sr_cmp (em_var 1) em_int) (em_one (em_B (cr_all rfl) sc_all rfl (T.free 10) (by decide +kernel) (am_cons (em_lc (own := [("part", 2)]) rfl sc__law_kinds_u3.nd (blkOk_by (N := N__law_kinds_u3) (sc := defScope s__law_kinds_u3) (by decide +kernel)) (im_seq (em_var 0)) (fun _ _ _ _ _ => (go_nm 2 sc__law_kinds_u3.nd)) (fun _ _ _ _ _ => tsm_nil) (fun _ _ _ _ _ => (eg_call (df__law_kinds_u2_2 T) (hr.mono (by decide)) (T.glo 9) (am_cons (em_var 2) (am_cons (em_op op_sub sr_sub (em_var 1) em_int) am_nil))))) am_nil)))))) sm_nil)
      (sm_one (st_ret (em_or (em_cmp op_isX sr_is (em_var 0) em_non) (em_or (em_B call_isi (sc_isi "str") rfl (T.free 4) (by decide +kernel) (am_cons (em_var 0) (am_cons (em_ty rfl (T.free 8) (by decide +kernel)) am_nil))) (em_one (em_and (em_B call_isi (sc_isi "int") rfl (T.free 4) (by decide +kernel) (am_cons (em_var 0) (am_cons (em_ty rfl (T.free 0) (by decide +kernel)) am_nil))) (em_one (em_notT (em_B call_isi (sc_isi "bool") rfl (T.free 4) (by decide +kernel) (am_cons (em_var 0) (am_cons (em_ty rfl (T.free 5) (by decide +kernel)) am_nil))))))))))))
theorem df__law_kinds_u3_2 (T : TX fa fn xf K mg) : DfG P w K mg base 5 (He.ga K "_law_kinds") 2 0 [] F__law_kinds_u3 := by
  obtain ⟨fd, F, OK⟩ := fk__law_kinds_u3 T
  exact ⟨⟨fd, ["thing", "deep"], [], [], rfl, OK, F.bindsN (fun _ _ _ _ _ _ us hl => match us, hl with | [_, _], _ => rfl), .nil, fun _ _ => RL.nil⟩, F.kp⟩
theorem fk__law_minus (T : TX fa fn xf K mg) : ∃ fd, FunD K "_law_minus" "_law_minus" (defArgs s__law_minus) (defBody s__law_minus) (defScope s__law_minus) [] [] (He.ga K "_law_minus") fd ∧ FnKG P w K mg base 5 (He.ga K "_law_minus") fd ["p", "one", "other"] F__law_minus := by
  obtain ⟨fd, F⟩ := T.c.1.def_ 27 (d := d__law_minus) rfl
  refine ⟨fd, F, gfn_ok (N := N__law_minus) (m := m__law_minus) F sc__law_minus fun cdv A outer s H E hr => ?_⟩
  exact (sm_one (st_ret (eg_call (df__law_plus_3 T) (hr.mono (by decide)) (T.glo 24) (am_cons (em_var 0) (am_cons (em_var 1) (am_cons (eg_call (df__law_times_3 T) (hr.mono (by decide)) (T.glo 23) (am_cons (em_var 0) (am_cons (eg_call (df__law_make_3 T) (hr.mono (by decide)) (T.glo 19) (am_cons (em_var 0) (am_cons (em_op op_sub sr_sub em_int em_int) (am_cons em_int am_nil)))) (am_cons (em_var 2) am_nil)))) am_nil))))))
theorem df__law_minus_3 (T : TX fa fn xf K mg) : DfG P w K mg base 5 (He.ga K "_law_minus") 3 0 [] F__law_minus := by
  obtain ⟨fd, F, OK⟩ := fk__law_minus T
  exact ⟨⟨fd, ["p", "one", "other"], [], [], rfl, OK, F.bindsN (fun _ _ _ _ _ _ us hl => match us, hl with | [_, _, _], _ => rfl), .nil, fun _ _ => RL.nil⟩, F.kp⟩
theorem fk_row_times (T : TX fa fn xf K mg) : ∃ fd, FunD K "row_times" "row_times" (defArgs s_row_times) (defBody s_row_times) (defScope s_row_times) [] [] (He.ga K "row_times") fd ∧ FnKG P w K mg base 5 (He.ga K "row_times") fd ["field", "number", "row"] F_row_times := by
  obtain ⟨fd, F⟩ := T.c.1.def_ 28 (d := d_row_times) rfl
  refine ⟨fd, F, gfn_ok (N := N_row_times) (m := m_row_times) F sc_row_times fun cdv A outer s H E hr => ?_⟩
  exact (sm_one (st_ret (em_Ty call_tuple_of sc_tuple rfl (T.free 2) (by decide +kernel) (am_cons (em_lc (own := [("part", 3)]) rfl sc_row_times.nd (blkOk_by (N := N_row_times) (sc := defScope s_row_times) (by decide +kernel)) (im_seq (em_var 2)) (fun _ _ _ _ _ => (go_nm 3 sc_row_times.nd)) (fun _ _ _ _ _ => tsm_nil) (fun _ _ _ _ _ => (eg_meth (df_Field_times_3 T) (hr.mono (by decide)) (T.cls 15) (T.meth 25) (em_var 0) (am_cons (em_var 1) (am_cons (em_var 3) am_nil))))) am_nil))))
theorem df_row_times_3 (T : TX fa fn xf K mg) : DfG P w K mg base 5 (He.ga K "row_times") 3 0 [] F_row_times := by
  obtain ⟨fd, F, OK⟩ := fk_row_times T
  exact ⟨⟨fd, ["field", "number", "row"], [], [], rfl, OK, F.bindsN (fun _ _ _ _ _ _ us hl => match us, hl with | [_, _, _], _ => rfl), .nil, fun _ _ => RL.nil⟩, F.kp⟩
theorem fk_row_plus (T : TX fa fn xf K mg) : ∃ fd, FunD K "row_plus" "row_plus" (defArgs s_row_plus) (defBody s_row_plus) (defScope s_row_plus) [] [] (He.ga K "row_plus") fd ∧ FnKG P w K mg base 5 (He.ga K "row_plus") fd ["field", "one", "other"] F_row_plus := by
  obtain ⟨fd, F⟩ := T.c.1.def_ 29 (d := d_row_plus) rfl
  refine ⟨fd, F, gfn_ok (N := N_row_plus) (m := m_row_plus) F sc_row_plus fun cdv A outer s H E hr => ?_⟩
  exact (sm_one (st_ret (em_Ty call_tuple_of sc_tuple rfl (T.free 2) (by decide +kernel) (am_cons (em_lc (own := [("left", 3), ("right", 4)]) rfl sc_row_plus.nd (blkOk_by (N := N_row_plus) (sc := defScope s_row_plus) (by decide +kernel)) (im_zip (T.free 26) (am_cons (em_var 1) (am_cons (em_var 2) am_nil))) (fun _ _ _ _ _ => (go_tp 2 rfl (gos_cons (go_nm 3 sc_row_plus.nd) (gos_cons (go_nm 4 sc_row_plus.nd) gos_nil)))) (fun _ _ _ _ _ => tsm_nil) (fun _ _ _ _ _ => (eg_meth (df_Field_plus_3 T) (hr.mono (by decide)) (T.cls 15) (T.meth 27) (em_var 0) (am_cons (em_var 3) (am_cons (em_var 4) am_nil))))) am_nil))))
theorem df_row_plus_3 (T : TX fa fn xf K mg) : DfG P w K mg base 5 (He.ga K "row_plus") 3 0 [] F_row_plus := by
  obtain ⟨fd, F, OK⟩ := fk_row_plus T
  exact ⟨⟨fd, ["field", "one", "other"], [], [], rfl, OK, F.bindsN (fun _ _ _ _ _ _ us hl => match us, hl with | [_, _, _], _ => rfl), .nil, fun _ _ => RL.nil⟩, F.kp⟩
theorem fk_dot (T : TX fa fn xf K mg) : ∃ fd, FunD K "dot" "dot" (defArgs s_dot) (defBody s_dot) (defScope s_dot) [] [] (He.ga K "dot") fd ∧ FnKG P w K mg base 5 (He.ga K "dot") fd ["field", "one", "other"] F_dot := by
  obtain ⟨fd, F⟩ := T.c.1.def_ 30 (d := d_dot) rfl
  refine ⟨fd, F, gfn_ok (N := N_dot) (m := m_dot) F sc_dot fun cdv A outer s H E hr => ?_⟩
  exact (sm_cons (st_set 3 sc_dot.nd (em_glob (v := .ref _) (d := .tup [.int 0, .int 1]) (T.tup 1).1 rfl fun _ G => ⟨_, _, rfl, (T.tup 1).2 G, (RL.cons (x := .int 0) rfl (RL.cons (x := .int 1) rfl RL.nil))⟩))
      (sm_cons (st_for PassesOwn.never rfl (im_zip (T.free 26) (am_cons (em_var 1) (am_cons (em_var 2) am_nil))) (gm_tp 2 rfl (gsm_cons (gm_nm 4 sc_dot.nd) (gsm_cons (gm_nm 5 sc_dot.nd) gsm_nil))) (sm_one (st_if (tm_w (wm_and (tm_cmp (op_neD (hr.units)) sr_ne (em_var 4) (em_glob (v := .ref _) (d := .tup [.int 0, .int 1]) (T.tup 1).1 rfl fun _ G => ⟨_, _, rfl, (T.tup 1).2 G, (RL.cons (x := .int 0) rfl (RL.cons (x := .int 1) rfl RL.nil))⟩)) (wm_and1 (tm_cmp (op_neD (hr.units)) sr_ne (em_var 5) (em_glob (v := .ref _) (d := .tup [.int 0, .int 1]) (T.tup 1).1 rfl fun _ G => ⟨_, _, rfl, (T.tup 1).2 G, (RL.cons (x := .int 0) rfl (RL.cons (x := .int 1) rfl RL.nil))⟩))))) (sm_one (st_set 3 sc_dot.nd (eg_meth (df_Field_plus_3 T) (hr.mono (by decide)) (T.cls 15) (T.meth 27) (em_var 0) (am_cons (em_var 3) (am_cons (eg_meth (df_Field_times_3 T) (hr.mono (by decide)) (T.cls 15) (T.meth 25) (em_var 0) (am_cons (em_var 4) (am_cons (em_var 5) am_nil))) am_nil))))) sm_nil)))
      (sm_one (st_ret (em_var 3)))))
theorem df_dot_3 (T : TX fa fn xf K mg) : DfG P w K mg base 5 (He.ga K "dot") 3 0 [] F_dot := by
  obtain ⟨fd, F, OK⟩ := fk_dot T
  exact ⟨⟨fd, ["field", "one", "other"], [], [], rfl, OK, F.bindsN (fun _ _ _ _ _ _ us hl => match us, hl with | [_, _, _], _ => rfl), .nil, fun _ _ => RL.nil⟩, F.kp⟩
theorem fk_row_minus (T : TX fa fn xf K mg) : ∃ fd, FunD K "row_minus" "row_minus" (defArgs s_row_minus) (defBody s_row_minus) (defScope s_row_minus) [] [] (He.ga K "row_minus") fd ∧ FnKG P w K mg base 5 (He.ga K "row_minus") fd ["field", "one", "other"] F_row_minus := by
  obtain ⟨fd, F⟩ := T.c.1.def_ 31 (d := d_row_minus) rfl
  refine ⟨fd, F, gfn_ok (N := N_row_minus) (m := m_row_minus) F sc_row_minus fun cdv A outer s H E hr => ?_⟩
  exact (sm_one (st_ret (em_Ty call_tuple_of sc_tuple rfl (T.free 2) (by decide +kernel) (am_cons (em_lc (own := [("left", 3), ("right", 4)]) rfl sc_row_minus.nd (blkOk_by (N := N_row_minus) (sc := defScope s_row_minus) (by decide +kernel)) (im_zip (T.free 26) (am_cons (em_var 1) (am_cons (em_var 2) am_nil))) (fun _ _ _ _ _ => (go_tp 2 rfl (gos_cons (go_nm 3 sc_row_minus.nd) (gos_cons (go_nm 4 sc_row_minus.nd) gos_nil)))) (fun _ _ _ _ _ => tsm_nil) (fun _ _ _ _ _ => (eg_meth (df_Field_minus_3 T) (hr.mono (by decide)) (T.cls 15) (T.meth 28) (em_var 0) (am_cons (em_var 3) (am_cons (em_var 4) am_nil))))) am_nil))))
theorem df_row_minus_3 (T : TX fa fn xf K mg) : DfG P w K mg base 5 (He.ga K "row_minus") 3 0 [] F_row_minus := by
  obtain ⟨fd, F, OK⟩ := fk_row_minus T
  exact ⟨⟨fd, ["field", "one", "other"], [], [], rfl, OK, F.bindsN (fun _ _ _ _ _ _ us hl => match us, hl with | [_, _, _], _ => rfl), .nil, fun _ _ => RL.nil⟩, F.kp⟩
theorem fk__law_row (T : TX fa fn xf K mg) : ∃ fd, FunD K "_law_row" "_law_row" (defArgs s__law_row) (defBody s__law_row) (defScope s__law_row) [] [] (He.ga K "_law_row") fd ∧ FnKG P w K mg base 5 (He.ga K "_law_row") fd ["bag", "p", "width"] F__law_row := by
  obtain ⟨fd, F⟩ := T.c.1.def_ 32 (d := d__law_row) rfl
  refine ⟨fd, F, gfn_ok (N := N__law_row) (m := m__law_row) F sc__law_row fun cdv A outer s H E hr => ?_⟩
  exact (sm_one (st_ret (em_Ty call_tuple_of sc_tuple rfl (T.free 2) (by decide +kernel) (am_cons (em_lc (own := [("k", 3)]) rfl sc__law_row.nd (blkOk_by (N := N__law_row) (sc := defScope s__law_row) (by decide +kernel)) (im_r1 (T.free 1) (am_cons (em_var 2) am_nil)) (fun _ _ _ _ _ => (go_nm 3 sc__law_row.nd)) (fun _ _ _ _ _ => tsm_nil) (fun _ _ _ _ _ => (eg_call (df__law_number_2 T) (hr.mono (by decide)) (T.glo 29) (am_cons (em_var 0) (am_cons (em_var 1) am_nil))))) am_nil))))
theorem df__law_row_3 (T : TX fa fn xf K mg) : DfG P w K mg base 5 (He.ga K "_law_row") 3 0 [] F__law_row := by
  obtain ⟨fd, F, OK⟩ := fk__law_row T
  exact ⟨⟨fd, ["bag", "p", "width"], [], [], rfl, OK, F.bindsN (fun _ _ _ _ _ _ us hl => match us, hl with | [_, _, _], _ => rfl), .nil, fun _ _ => RL.nil⟩, F.kp⟩
theorem fk__law_kinds_u4 (T : TX fa fn xf K mg) : ∃ fd, FunD K "_law_kinds" "_law_kinds" (defArgs s__law_kinds_u4) (defBody s__law_kinds_u4) (defScope s__law_kinds_u4) [] [] (He.ga K "_law_kinds") fd ∧ FnKG P w K mg base 6 (He.ga K "_law_kinds") fd ["thing", "deep"] F__law_kinds_u4 := by
  obtain ⟨fd, F⟩ := T.c.1.def_ 1 (d := d__law_kinds_u0) rfl
  refine ⟨fd, F, gfn_ok (N := N__law_kinds_u4) (m := m__law_kinds_u4) F sc__law_kinds_u4 fun cdv A outer s H E hr => ?_⟩
  exact (sm_cons (st_if (tm_tru (em_B call_isi (sc_isi "tuple") rfl (T.free 4) (by decide +kernel) (am_cons (em_var 0) (am_cons (em_ty rfl (T.free 2) (by decide +kernel)) am_nil)))) (sm_one (st_ret (em_and (em_cmp op_gt sr_cmp (em_var 1) em_int) (em_one (em_B (cr_all rfl) sc_all rfl (T.free 10) (by decide +kernel) (am_cons (em_lc (own := [("part", 2)]) rfl sc__law_kinds_u4.nd (blkOk_by (N := N__law_kinds_u4) (sc := defScope s__law_kinds_u4) (by decide +kernel)) (im_seq (em_var 0)) (fun _ _ _ _ _ => (go_nm 2 sc__law_kinds_u4.nd)) (fun _ _ _ _ _ => tsm_nil) (fun _ _ _ _ _ => (eg_call (df__law_kinds_u3_2 T) (hr.mono (by decide)) (T.glo 9) (am_cons (em_var 2) (am_cons (em_op op_sub sr_sub (em_var 1) em_int) am_nil))))) am_nil)))))) sm_nil)
      (sm_one (st_ret (em_or (em_cmp op_isX sr_is (em_var 0) em_non) (em_or (em_B call_isi (sc_isi "str") rfl (T.free 4) (by decide +kernel) (am_cons (em_var 0) (am_cons (em_ty rfl (T.free 8) (by decide +kernel)) am_nil))) (em_one (em_and (em_B call_isi (sc_isi "int") rfl (T.free 4) (by decide +kernel) (am_cons (em_var 0) (am_cons (em_ty rfl (T.free 0) (by decide +kernel)) am_nil))) (em_one (em_notT (em_B call_isi (sc_isi "bool") rfl (T.free 4) (by decide +kernel) (am_cons (em_var 0) (am_cons (em_ty rfl (T.free 5) (by decide +kernel)) am_nil))))))))))))
theorem df__law_kinds_u4_2 (T : TX fa fn xf K mg) : DfG P w K mg base 6 (He.ga K "_law_kinds") 2 0 [] F__law_kinds_u4 := by
  obtain ⟨fd, F, OK⟩ := fk__law_kinds_u4 T
  exact ⟨⟨fd, ["thing", "deep"], [], [], rfl, OK, F.bindsN (fun _ _ _ _ _ _ us hl => match us, hl with | [_, _], _ => rfl), .nil, fun _ _ => RL.nil⟩, F.kp⟩
theorem fk_row_table (T : TX fa fn xf K mg) : ∃ fd, FunD K "row_table" "row_table" (defArgs s_row_table) (defBody s_row_table) (defScope s_row_table) [.non] [] (He.ga K "row_table") fd ∧ FnKG P w K mg base 6 (He.ga K "row_table") fd ["field", "row", "table", "width"] F_row_table := by
  obtain ⟨fd, F⟩ := T.c.1.def_ 33 (d := d_row_table) rfl
  refine ⟨fd, F, gfn_ok (N := N_row_table) (m := m_row_table) F sc_row_table fun cdv A outer s H E hr => ?_⟩
  exact (sm_cons (st_set 4 sc_row_table.nd (em_ifx (tm_cmp op_isNotX sr_isNot (em_var 3) em_non) (em_var 3) (em_B call_len_seq sc_len rfl (T.free 3) (by decide +kernel) (am_cons (em_ix (em_var 2) em_int (fun _ _ => rfl)) am_nil))))
      (sm_cons (st_set 5 sc_row_table.nd (eg_call (df_zero_row_1 T) (hr.mono (by decide)) (T.glo 32) (am_cons (em_var 4) am_nil)))
      (sm_cons (st_for PassesOwn.never rfl (im_zip (T.free 26) (am_cons (em_var 1) (am_cons (em_var 2) am_nil))) (gm_tp 2 rfl (gsm_cons (gm_nm 6 sc_row_table.nd) (gsm_cons (gm_nm 7 sc_row_table.nd) gsm_nil))) (sm_one (st_if (tm_cmp (op_neD (hr.units)) sr_ne (em_var 6) (em_glob (v := .ref _) (d := .tup [.int 0, .int 1]) (T.tup 1).1 rfl fun _ G => ⟨_, _, rfl, (T.tup 1).2 G, (RL.cons (x := .int 0) rfl (RL.cons (x := .int 1) rfl RL.nil))⟩)) (sm_one (st_set 5 sc_row_table.nd (eg_call (df_row_plus_3 T) (hr.mono (by decide)) (T.glo 31) (am_cons (em_var 0) (am_cons (em_var 5) (am_cons (eg_call (df_row_times_3 T) (hr.mono (by decide)) (T.glo 30) (am_cons (em_var 0) (am_cons (em_var 6) (am_cons (em_var 7) am_nil)))) am_nil)))))) sm_nil)))
      (sm_one (st_ret (em_var 5))))))
theorem df_row_table_3 (T : TX fa fn xf K mg) : DfG P w K mg base 6 (He.ga K "row_table") 4 1 [.non] F_row_table := by
  obtain ⟨fd, F, OK⟩ := fk_row_table T
  obtain ⟨ds, hv, hb⟩ := F.binds1 (ps := ["field", "row", "table", "width"]) 3 0 (List.cons_ne_nil _ _) rfl (fun T kV doc pm an cdv ct us its hl hl2 => match us, its, hl, hl2 with | [_, _, _], [_], _, _ => ⟨_, rfl, rfl⟩)
  exact ⟨⟨fd, ["field", "row", "table", "width"], _, ds, rfl, OK, hb, hv, fun _ _ => (RL.cons (x := .non) rfl RL.nil)⟩, F.kp⟩
theorem df_row_table_4 (T : TX fa fn xf K mg) : DfG P w K mg base 6 (He.ga K "row_table") 4 0 [] F_row_table := by
  obtain ⟨fd, F, OK⟩ := fk_row_table T
  obtain ⟨ds, hv, hb⟩ := F.binds1 (ps := ["field", "row", "table", "width"]) 4 1 (List.cons_ne_nil _ _) rfl (fun T kV doc pm an cdv ct us its hl hl2 => match us, its, hl, hl2 with | [_, _, _, _], [_], _, _ => ⟨_, rfl, rfl⟩)
  exact ⟨⟨fd, ["field", "row", "table", "width"], _, ds, rfl, OK, hb, hv, fun _ _ => RL.nil⟩, F.kp⟩
theorem fk_table_row (T : TX fa fn xf K mg) : ∃ fd, FunD K "table_row" "table_row" (defArgs s_table_row) (defBody s_table_row) (defScope s_table_row) [] [] (He.ga K "table_row") fd ∧ FnKG P w K mg base 6 (He.ga K "table_row") fd ["field", "table", "row"] F_table_row := by
  obtain ⟨fd, F⟩ := T.c.1.def_ 34 (d := d_table_row) rfl
  refine ⟨fd, F, gfn_ok (N := N_table_row) (m := m_table_row) F sc_table_row fun cdv A outer s H E hr => ?_⟩
  exact (sm_one (st_ret (em_Ty call_tuple_of sc_tuple rfl (T.free 2) (by decide +kernel) (am_cons (em_lc (own := [("line", 3)]) rfl sc_table_row.nd (blkOk_by (N := N_table_row) (sc := defScope s_table_row) (by decide +kernel)) (im_seq (em_var 1)) (fun _ _ _ _ _ => (go_nm 3 sc_table_row.nd)) (fun _ _ _ _ _ => tsm_nil) (fun _ _ _ _ _ => (eg_call (df_dot_3 T) (hr.mono (by decide)) (T.glo 33) (am_cons (em_var 0) (am_cons (em_var 3) (am_cons (em_var 2) am_nil)))))) am_nil))))
theorem df_table_row_3 (T : TX fa fn xf K mg) : DfG P w K mg base 6 (He.ga K "table_row") 3 0 [] F_table_row := by
  obtain ⟨fd, F, OK⟩ := fk_table_row T
  exact ⟨⟨fd, ["field", "table", "row"], [], [], rfl, OK, F.bindsN (fun _ _ _ _ _ _ us hl => match us, hl with | [_, _, _], _ => rfl), .nil, fun _ _ => RL.nil⟩, F.kp⟩
theorem fk_table_plus (T : TX fa fn xf K mg) : ∃ fd, FunD K "table_plus" "table_plus" (defArgs s_table_plus) (defBody s_table_plus) (defScope s_table_plus) [] [] (He.ga K "table_plus") fd ∧ FnKG P w K mg base 6 (He.ga K "table_plus") fd ["field", "one", "other"] F_table_plus := by
  obtain ⟨fd, F⟩ := T.c.1.def_ 35 (d := d_table_plus) rfl
  refine ⟨fd, F, gfn_ok (N := N_table_plus) (m := m_table_plus) F sc_table_plus fun cdv A outer s H E hr => ?_⟩
  exact (sm_one (st_ret (em_Ty call_tuple_of sc_tuple rfl (T.free 2) (by decide +kernel) (am_cons (em_lc (own := [("left", 3), ("right", 4)]) rfl sc_table_plus.nd (blkOk_by (N := N_table_plus) (sc := defScope s_table_plus) (by decide +kernel)) (im_zip (T.free 26) (am_cons (em_var 1) (am_cons (em_var 2) am_nil))) (fun _ _ _ _ _ => (go_tp 2 rfl (gos_cons (go_nm 3 sc_table_plus.nd) (gos_cons (go_nm 4 sc_table_plus.nd) gos_nil)))) (fun _ _ _ _ _ => tsm_nil) (fun _ _ _ _ _ => (eg_call (df_row_plus_3 T) (hr.mono (by decide)) (T.glo 31) (am_cons (em_var 0) (am_cons (em_var 3) (am_cons (em_var 4) am_nil)))))) am_nil))))
theorem df_table_plus_3 (T : TX fa fn xf K mg) : DfG P w K mg base 6 (He.ga K "table_plus") 3 0 [] F_table_plus := by
  obtain ⟨fd, F, OK⟩ := fk_table_plus T
  exact ⟨⟨fd, ["field", "one", "other"], [], [], rfl, OK, F.bindsN (fun _ _ _ _ _ _ us hl => match us, hl with | [_, _, _], _ => rfl), .nil, fun _ _ => RL.nil⟩, F.kp⟩
theorem fk_table_table (T : TX fa fn xf K mg) : ∃ fd, FunD K "table_table" "table_table" (defArgs s_table_table) (defBody s_table_table) (defScope s_table_table) [] [] (He.ga K "table_table") fd ∧ FnKG P w K mg base 7 (He.ga K "table_table") fd ["field", "one", "other"] F_table_table := by
  obtain ⟨fd, F⟩ := T.c.1.def_ 36 (d := d_table_table) rfl
  refine ⟨fd, F, gfn_ok (N := N_table_table) (m := m_table_table) F sc_table_table fun cdv A outer s H E hr => ?_⟩
  exact (sm_one (st_ret (em_Ty call_tuple_of sc_tuple rfl (T.free 2) (by decide +kernel) (am_cons (em_lc (own := [("line", 3)]) rfl sc_table_table.nd (blkOk_by (N := N_table_table) (sc := defScope s_table_table) (by decide +kernel)) (im_seq (em_var 1)) (fun _ _ _ _ _ => (go_nm 3 sc_table_table.nd)) (fun _ _ _ _ _ => tsm_nil) (fun _ _ _ _ _ => (eg_call (df_row_table_3 T) (hr.mono (by decide)) (T.glo 34) (am_cons (em_var 0) (am_cons (em_var 3) (am_cons (em_var 2) am_nil)))))) am_nil))))
theorem df_table_table_3 (T : TX fa fn xf K mg) : DfG P w K mg base 7 (He.ga K "table_table") 3 0 [] F_table_table := by
  obtain ⟨fd, F, OK⟩ := fk_table_table T
  exact ⟨⟨fd, ["field", "one", "other"], [], [], rfl, OK, F.bindsN (fun _ _ _ _ _ _ us hl => match us, hl with | [_, _, _], _ => rfl), .nil, fun _ _ => RL.nil⟩, F.kp⟩
theorem fk__law_tables_right (T : TX fa fn xf K mg) : ∃ fd, FunD K "_law_tables_right" "_law_tables_right" (defArgs s__law_tables_right) (defBody s__law_tables_right) (defScope s__law_tables_right) [] [] (He.ga K "_law_tables_right") fd ∧ FnKG P w K mg base 8 (He.ga K "_law_tables_right") fd ["bag", "p", "field"] F__law_tables_right := by
  obtain ⟨fd, F⟩ := T.c.1.def_ 37 (d := d__law_tables_right) rfl
  refine ⟨fd, F, gfn_drop <| gfn_ok (N := N__law_tables_right) (m := m__law_tables_right) F sc__law_tables_right fun cdv A outer s H E hr => ?_⟩
  exact (sm_cons (st_set 3 sc__law_tables_right.nd (em_op op_addX sr_add em_int (eg_call (df__law_draw_2 T) (hr.mono (by decide)) (T.glo 13) (am_cons (em_var 0) (am_cons em_int am_nil)))))
      (sm_cons (st_set 4 sc__law_tables_right.nd (em_op op_addX sr_add em_int (eg_call (df__law_draw_2 T) (hr.mono (by decide)) (T.glo 13) (am_cons (em_var 0) (am_cons em_int am_nil)))))
      (sm_cons (st_set 5 sc__law_tables_right.nd (em_op op_addX sr_add em_int (eg_call (df__law_draw_2 T) (hr.mono (by decide)) (T.glo 13) (am_cons (em_var 0) (am_cons em_int am_nil)))))
      (sm_cons (st_set 6 sc__law_tables_right.nd (em_lc (own := [("k", 20)]) rfl sc__law_tables_right.nd (blkOk_by (N := N__law_tables_right) (sc := defScope s__law_tables_right) (by decide +kernel)) (im_r1 (T.free 1) (am_cons (em_var 4) am_nil)) (fun _ _ _ _ _ => (go_nm 20 sc__law_tables_right.nd)) (fun _ _ _ _ _ => tsm_nil) (fun _ _ _ _ _ => (eg_call (df__law_row_3 T) (hr.mono (by decide)) (T.glo 47) (am_cons (em_var 0) (am_cons (em_var 1) (am_cons (em_var 3) am_nil)))))))
      (sm_cons (st_set 7 sc__law_tables_right.nd (em_lc (own := [("k", 20)]) rfl sc__law_tables_right.nd (blkOk_by (N := N__law_tables_right) (sc := defScope s__law_tables_right) (by decide +kernel)) (im_r1 (T.free 1) (am_cons (em_var 4) am_nil)) (fun _ _ _ _ _ => (go_nm 20 sc__law_tables_right.nd)) (fun _ _ _ _ _ => tsm_nil) (fun _ _ _ _ _ => (eg_call (df__law_row_3 T) (hr.mono (by decide)) (T.glo 47) (am_cons (em_var 0) (am_cons (em_var 1) (am_cons (em_var 3) am_nil)))))))
      (sm_cons (st_set 8 sc__law_tables_right.nd (em_lc (own := [("k", 20)]) rfl sc__law_tables_right.nd (blkOk_by (N := N__law_tables_right) (sc := defScope s__law_tables_right) (by decide +kernel)) (im_r1 (T.free 1) (am_cons (em_var 3) am_nil)) (fun _ _ _ _ _ => (go_nm 20 sc__law_tables_right.nd)) (fun _ _ _ _ _ => tsm_nil) (fun _ _ _ _ _ => (eg_call (df__law_row_3 T) (hr.mono (by decide)) (T.glo 47) (am_cons (em_var 0) (am_cons (em_var 1) (am_cons (em_var 5) am_nil)))))))
      (sm_cons (st_set 9 sc__law_tables_right.nd (eg_call (df__law_number_2 T) (hr.mono (by decide)) (T.glo 29) (am_cons (em_var 0) (am_cons (em_var 1) am_nil))))
      (sm_cons (st_set 10 sc__law_tables_right.nd (eg_call (df__law_row_3 T) (hr.mono (by decide)) (T.glo 47) (am_cons (em_var 0) (am_cons (em_var 1) (am_cons (em_var 4) am_nil)))))
      (sm_cons (st_set 11 sc__law_tables_right.nd (eg_call (df__law_row_3 T) (hr.mono (by decide)) (T.glo 47) (am_cons (em_var 0) (am_cons (em_var 1) (am_cons (em_var 3) am_nil)))))
      (sm_cons (st_setLc 12 (own := [("line", 21)]) rfl sc__law_tables_right.nd (blkOk_by (N := N__law_tables_right) (sc := defScope s__law_tables_right) (by decide +kernel)) (sw_true rfl rfl rfl (by decide +kernel)) (im_seq (em_var 6)) (fun _ _ _ _ _ => (go_nm 21 sc__law_tables_right.nd)) (fun _ _ _ _ _ => tsm_nil) (fun _ _ _ _ _ => (eg_call (df__law_list_2 T) (hr.mono (by decide)) (T.glo 46) (am_cons (em_var 0) (am_cons (em_var 21) am_nil)))))
      (sm_cons (st_set 13 sc__law_tables_right.nd (em_B (call_reprD hr) sc_repr rfl (T.free 35) (by decide +kernel) (am_cons (em_var 12) am_nil)))
      (sm_cons (st_set 14 sc__law_tables_right.nd (eg_call (df__law_draw_2 T) (hr.mono (by decide)) (T.glo 13) (am_cons (em_var 0) (am_cons (em_var 3) am_nil))))
      (sm_cons (st_set 15 sc__law_tables_right.nd (em_lc (own := [("k", 20)]) rfl sc__law_tables_right.nd (blkOk_by (N := N__law_tables_right) (sc := defScope s__law_tables_right) (by decide +kernel)) (im_r1 (T.free 1) (am_cons (em_var 5) am_nil)) (fun _ _ _ _ _ => (go_nm 20 sc__law_tables_right.nd)) (fun _ _ _ _ _ => tsm_nil) (fun _ _ _ _ _ => (em_Ty call_tuple_of sc_tuple rfl (T.free 2) (by decide +kernel) (am_cons (em_lc (own := [("line", 21)]) rfl sc__law_tables_right.nd (blkOk_by (by with_unfolding_all rfl)) (im_seq (em_var 8)) (fun _ _ _ _ _ => (go_nm 21 sc__law_tables_right.nd)) (fun _ _ _ _ _ => tsm_nil) (fun _ _ _ _ _ => (em_ix (em_var 21) (em_var 20) (fun _ _ => rfl)))) am_nil)))))
      (sm_cons (st_set 16 sc__law_tables_right.nd (em_Ty call_tuple_of sc_tuple rfl (T.free 2) (by decide +kernel) (am_cons (em_lc (own := [("k", 20)]) rfl sc__law_tables_right.nd (blkOk_by (N := N__law_tables_right) (sc := defScope s__law_tables_right) (by decide +kernel)) (im_r1 (T.free 1) (am_cons (em_var 3) am_nil)) (fun _ _ _ _ _ => (go_nm 20 sc__law_tables_right.nd)) (fun _ _ _ _ _ => tsm_nil) (fun _ _ _ _ _ => (eg_call (df__law_dot_3 T) (hr.mono (by decide)) (T.glo 37) (am_cons (em_var 1) (am_cons (em_var 10) (am_cons (em_lc (own := [("line", 21)]) rfl sc__law_tables_right.nd (blkOk_by (by with_unfolding_all rfl)) (im_seq (em_var 6)) (fun _ _ _ _ _ => (go_nm 21 sc__law_tables_right.nd)) (fun _ _ _ _ _ => tsm_nil) (fun _ _ _ _ _ => (em_ix (em_var 21) (em_var 20) (fun _ _ => rfl)))) am_nil)))))) am_nil)))
      (sm_cons (st_set 17 sc__law_tables_right.nd (em_lstC (am_cons (eg_call (df_zero_row_1 T) (hr.mono (by decide)) (T.glo 32) (am_cons (em_var 3) am_nil)) (am_cons (eg_call (df_unit_row_2 T) (hr.mono (by decide)) (T.glo 12) (am_cons (em_var 3) (am_cons (em_var 14) am_nil))) (am_cons (eg_call (df_unit_table_1 T) (hr.mono (by decide)) (T.glo 45) (am_cons (em_var 3) am_nil)) (am_cons (eg_call (df_dot_3 T) (hr.mono (by decide)) (T.glo 33) (am_cons (em_var 2) (am_cons (em_ix (em_var 6) em_int (fun _ _ => rfl)) (am_cons (em_var 11) am_nil)))) am_nil))))))
      (sm_cons (st_set 18 sc__law_tables_right.nd (em_lstC (am_cons (eg_call (df__law_zero_1 T) (hr.mono (by decide)) (T.glo 40) (am_cons (em_var 3) am_nil)) (am_cons (eg_call (df__law_unit_2 T) (hr.mono (by decide)) (T.glo 44) (am_cons (em_var 3) (am_cons (em_var 14) am_nil))) (am_cons (em_Ty call_tuple_of sc_tuple rfl (T.free 2) (by decide +kernel) (am_cons (em_lc (own := [("k", 20)]) rfl sc__law_tables_right.nd (blkOk_by (N := N__law_tables_right) (sc := defScope s__law_tables_right) (by decide +kernel)) (im_r1 (T.free 1) (am_cons (em_var 3) am_nil)) (fun _ _ _ _ _ => (go_nm 20 sc__law_tables_right.nd)) (fun _ _ _ _ _ => tsm_nil) (fun _ _ _ _ _ => (eg_call (df__law_unit_2 T) (hr.mono (by decide)) (T.glo 44) (am_cons (em_var 3) (am_cons (em_var 20) am_nil))))) am_nil)) (am_cons (eg_call (df__law_dot_3 T) (hr.mono (by decide)) (T.glo 37) (am_cons (em_var 1) (am_cons (em_ix (em_var 6) em_int (fun _ _ => rfl)) (am_cons (em_var 11) am_nil)))) am_nil))))))
      (sm_cons (st_expr (em_extend (em_var 17) (em_lst (am_cons (eg_call (df_row_plus_3 T) (hr.mono (by decide)) (T.glo 31) (am_cons (em_var 2) (am_cons (em_ix (em_var 12) em_int (fun _ _ => rfl)) (am_cons (em_var 11) am_nil)))) (am_cons (eg_call (df_row_minus_3 T) (hr.mono (by decide)) (T.glo 43) (am_cons (em_var 2) (am_cons (em_ix (em_var 12) em_int (fun _ _ => rfl)) (am_cons (em_var 11) am_nil)))) (am_cons (eg_call (df_row_times_3 T) (hr.mono (by decide)) (T.glo 30) (am_cons (em_var 2) (am_cons (em_var 9) (am_cons (em_ix (em_var 12) em_int (fun _ _ => rfl)) am_nil)))) am_nil))))))
      (sm_cons (st_expr (em_append (em_var 18) (em_Ty call_tuple_of sc_tuple rfl (T.free 2) (by decide +kernel) (am_cons (em_lc (own := [("k", 20)]) rfl sc__law_tables_right.nd (blkOk_by (N := N__law_tables_right) (sc := defScope s__law_tables_right) (by decide +kernel)) (im_r1 (T.free 1) (am_cons (em_var 3) am_nil)) (fun _ _ _ _ _ => (go_nm 20 sc__law_tables_right.nd)) (fun _ _ _ _ _ => tsm_nil) (fun _ _ _ _ _ => (eg_call (df__law_plus_3 T) (hr.mono (by decide)) (T.glo 24) (am_cons (em_var 1) (am_cons (em_ix (em_ix (em_var 6) em_int (fun _ _ => rfl)) (em_var 20) (fun _ _ => rfl)) (am_cons (em_ix (em_var 11) (em_var 20) (fun _ _ => rfl)) am_nil)))))) am_nil))))
      (sm_cons (st_expr (em_append (em_var 18) (em_Ty call_tuple_of sc_tuple rfl (T.free 2) (by decide +kernel) (am_cons (em_lc (own := [("k", 20)]) rfl sc__law_tables_right.nd (blkOk_by (N := N__law_tables_right) (sc := defScope s__law_tables_right) (by decide +kernel)) (im_r1 (T.free 1) (am_cons (em_var 3) am_nil)) (fun _ _ _ _ _ => (go_nm 20 sc__law_tables_right.nd)) (fun _ _ _ _ _ => tsm_nil) (fun _ _ _ _ _ => (eg_call (df__law_minus_3 T) (hr.mono (by decide)) (T.glo 42) (am_cons (em_var 1) (am_cons (em_ix (em_ix (em_var 6) em_int (fun _ _ => rfl)) (em_var 20) (fun _ _ => rfl)) (am_cons (em_ix (em_var 11) (em_var 20) (fun _ _ => rfl)) am_nil)))))) am_nil))))
      (sm_cons (st_expr (em_append (em_var 18) (em_Ty call_tuple_of sc_tuple rfl (T.free 2) (by decide +kernel) (am_cons (em_lc (own := [("part", 22)]) rfl sc__law_tables_right.nd (blkOk_by (N := N__law_tables_right) (sc := defScope s__law_tables_right) (by decide +kernel)) (im_seq (em_ix (em_var 6) em_int (fun _ _ => rfl))) (fun _ _ _ _ _ => (go_nm 22 sc__law_tables_right.nd)) (fun _ _ _ _ _ => tsm_nil) (fun _ _ _ _ _ => (eg_call (df__law_times_3 T) (hr.mono (by decide)) (T.glo 23) (am_cons (em_var 1) (am_cons (em_var 9) (am_cons (em_var 22) am_nil)))))) am_nil))))
      (sm_cons (st_expr (em_extend (em_var 17) (em_lst (am_cons (eg_call (df_table_row_3 T) (hr.mono (by decide)) (T.glo 41) (am_cons (em_var 2) (am_cons (em_var 12) (am_cons (em_var 11) am_nil)))) (am_cons (eg_call (df_row_table_3 T) (hr.mono (by decide)) (T.glo 34) (am_cons (em_var 2) (am_cons (em_var 10) (am_cons (em_var 12) am_nil)))) (am_cons (eg_call (df_row_table_4 T) (hr.mono (by decide)) (T.glo 34) (am_cons (em_var 2) (am_cons (em_tup am_nil) (am_cons (em_tup am_nil) (am_cons (em_var 3) am_nil))))) am_nil))))))
      (sm_cons (st_expr (em_extend (em_var 18) (em_lst (am_cons (em_Ty call_tuple_of sc_tuple rfl (T.free 2) (by decide +kernel) (am_cons (em_lc (own := [("line", 21)]) rfl sc__law_tables_right.nd (blkOk_by (N := N__law_tables_right) (sc := defScope s__law_tables_right) (by decide +kernel)) (im_seq (em_var 6)) (fun _ _ _ _ _ => (go_nm 21 sc__law_tables_right.nd)) (fun _ _ _ _ _ => tsm_nil) (fun _ _ _ _ _ => (eg_call (df__law_dot_3 T) (hr.mono (by decide)) (T.glo 37) (am_cons (em_var 1) (am_cons (em_var 21) (am_cons (em_var 11) am_nil)))))) am_nil)) (am_cons (em_var 16) (am_cons (eg_call (df__law_zero_1 T) (hr.mono (by decide)) (T.glo 40) (am_cons (em_var 3) am_nil)) am_nil))))))
      (sm_cons (st_expr (em_extend (em_var 17) (em_lst (am_cons (eg_call (df_row_table_4 T) (hr.mono (by decide)) (T.glo 34) (am_cons (em_var 2) (am_cons (em_var 10) (am_cons (em_var 12) (am_cons (em_var 3) am_nil))))) (am_cons (eg_call (df_table_table_3 T) (hr.mono (by decide)) (T.glo 39) (am_cons (em_var 2) (am_cons (em_var 12) (am_cons (em_var 8) am_nil)))) (am_cons (eg_call (df_turned_1 T) (hr.mono (by decide)) (T.glo 38) (am_cons (em_var 8) am_nil)) (am_cons (eg_call (df_turned_1 T) (hr.mono (by decide)) (T.glo 38) (am_cons (em_var 12) am_nil)) am_nil)))))))
      (sm_cons (st_expr (em_extend (em_var 18) (em_lst (am_cons (em_var 16) (am_cons (em_Ty call_tuple_of sc_tuple rfl (T.free 2) (by decide +kernel) (am_cons (em_lc (own := [("line", 21)]) rfl sc__law_tables_right.nd (blkOk_by (N := N__law_tables_right) (sc := defScope s__law_tables_right) (by decide +kernel)) (im_seq (em_var 6)) (fun _ _ _ _ _ => (go_nm 21 sc__law_tables_right.nd)) (fun _ _ _ _ _ => tsm_nil) (fun _ _ _ _ _ => (em_Ty call_tuple_of sc_tuple rfl (T.free 2) (by decide +kernel) (am_cons (em_lc (own := [("part", 22)]) rfl sc__law_tables_right.nd (blkOk_by (by with_unfolding_all rfl)) (im_seq (em_var 15)) (fun _ _ _ _ _ => (go_nm 22 sc__law_tables_right.nd)) (fun _ _ _ _ _ => tsm_nil) (fun _ _ _ _ _ => (eg_call (df__law_dot_3 T) (hr.mono (by decide)) (T.glo 37) (am_cons (em_var 1) (am_cons (em_var 21) (am_cons (em_var 22) am_nil)))))) am_nil)))) am_nil)) (am_cons (em_Ty call_tuple_of sc_tuple rfl (T.free 2) (by decide +kernel) (am_cons (em_var 15) am_nil)) am_nil))))))
      (sm_cons (st_expr (em_append (em_var 18) (em_Ty call_tuple_of sc_tuple rfl (T.free 2) (by decide +kernel) (am_cons (em_lc (own := [("k", 20)]) rfl sc__law_tables_right.nd (blkOk_by (N := N__law_tables_right) (sc := defScope s__law_tables_right) (by decide +kernel)) (im_r1 (T.free 1) (am_cons (em_var 3) am_nil)) (fun _ _ _ _ _ => (go_nm 20 sc__law_tables_right.nd)) (fun _ _ _ _ _ => tsm_nil) (fun _ _ _ _ _ => (em_Ty call_tuple_of sc_tuple rfl (T.free 2) (by decide +kernel) (am_cons (em_lc (own := [("line", 21)]) rfl sc__law_tables_right.nd (blkOk_by (by with_unfolding_all rfl)) (im_seq (em_var 6)) (fun _ _ _ _ _ => (go_nm 21 sc__law_tables_right.nd)) (fun _ _ _ _ _ => tsm_nil) (fun _ _ _ _ _ => (em_ix (em_var 21) (em_var 20) (fun _ _ => rfl)))) am_nil)))) am_nil))))
      (sm_cons (st_expr (em_append (em_var 17) (eg_call (df_table_plus_3 T) (hr.mono (by decide)) (T.glo 36) (am_cons (em_var 2) (am_cons (em_var 12) (am_cons (em_var 7) am_nil))))))
      (sm_cons (st_set 19 sc__law_tables_right.nd (em_lstC am_nil))
      (sm_cons (st_for PassesOwn.never rfl (im_r1 (T.free 1) (am_cons (em_var 4) am_nil)) (gm_nm 20 sc__law_tables_right.nd) (sm_one (st_expr (em_append (em_var 19) (em_Ty call_tuple_of sc_tuple rfl (T.free 2) (by decide +kernel) (am_cons (em_lc (own := [("i", 23)]) rfl sc__law_tables_right.nd (blkOk_by (N := N__law_tables_right) (sc := defScope s__law_tables_right) (by decide +kernel)) (im_r1 (T.free 1) (am_cons (em_var 3) am_nil)) (fun _ _ _ _ _ => (go_nm 23 sc__law_tables_right.nd)) (fun _ _ _ _ _ => tsm_nil) (fun _ _ _ _ _ => (eg_call (df__law_plus_3 T) (hr.mono (by decide)) (T.glo 24) (am_cons (em_var 1) (am_cons (em_ix (em_ix (em_var 6) (em_var 20) (fun _ _ => rfl)) (em_var 23) (fun _ _ => rfl)) (am_cons (em_ix (em_ix (em_var 7) (em_var 20) (fun _ _ => rfl)) (em_var 23) (fun _ _ => rfl)) am_nil)))))) am_nil))))))
      (sm_cons (st_expr (em_append (em_var 18) (em_Ty call_tuple_of sc_tuple rfl (T.free 2) (by decide +kernel) (am_cons (em_var 19) am_nil))))
      (sm_frz 17 (sm_one (st_ret (em_and (em_B (cr_all rfl) sc_all rfl (T.free 10) (by decide +kernel) (am_cons (em_lc (own := [("thing", 24)]) rfl sc__law_tables_right.nd (blkOk_by (N := N__law_tables_right) (sc := defScope s__law_tables_right) (by decide +kernel)) (im_seq (em_var 17)) (fun _ _ _ _ _ => (go_nm 24 sc__law_tables_right.nd)) (fun _ _ _ _ _ => tsm_nil) (fun _ _ _ _ _ => (eg_call (df__law_kinds_u4_2 T) (hr.mono (by decide)) (T.glo 9) (am_cons (em_var 24) (am_cons em_int am_nil))))) am_nil)) (em_and (em_cmp (op_eqD (hr.units)) sr_eq (em_var 17) (em_var 18)) (em_one (em_cmp (op_eqD (hr.units)) sr_eq (em_B (call_reprD hr) sc_repr rfl (T.free 35) (by decide +kernel) (am_cons (em_var 12) am_nil)) (em_var 13)))))))))))))))))))))))))))))))))))))
theorem df__law_tables_right_3 (T : TX fa fn xf K mg) : DfG P w K mg base 8 (He.ga K "_law_tables_right") 3 0 [] F__law_tables_right := by
  obtain ⟨fd, F, OK⟩ := fk__law_tables_right T
  exact ⟨⟨fd, ["bag", "p", "field"], [], [], rfl, OK, F.bindsN (fun _ _ _ _ _ _ us hl => match us, hl with | [_, _, _], _ => rfl), .nil, fun _ _ => RL.nil⟩, F.kp⟩
theorem fk_law (T : TX fa fn xf K mg) : ∃ fd, FunD K "law" "law" (defArgs s_law) (defBody s_law) (defScope s_law) [] [] (He.ga K "law") fd ∧ FnG P w K mg base CX0 9 (He.ga K "law") fd ["script"] (spM K 1 F_law) := by
  obtain ⟨fd, F⟩ := T.c.1.def_ 38 (d := d_law) rfl
  refine ⟨fd, F, gfn_drop <| gfn_ok (N := N_law) (m := m_law) F sc_law fun cdv A outer s H E hr => ?_⟩
  exact (sm_cons (st_set 1 sc_law.nd (eg_call (df__law_bag_1 T) (hr.mono (by decide)) (T.glo 52) (am_cons (em_var 0) am_nil)))
      (sm_cons (st_set 2 sc_law.nd (eg_call (df__law_prime_1 T) (hr.mono (by decide)) (T.glo 51) (am_cons (em_var 1) am_nil)))
      (sm_cons (st_set 3 sc_law.nd (em_ifx (tm_cmp (op_eqD (hr.units)) sr_eq (em_var 2) em_int) (eg_make0 (df_Field___init___1 T) (hr.mono (by decide)) (T.mkr 49) (T.glo 50)) (eg_make (df_Field___init___2 T) (hr.mono (by decide)) (T.mkr 49) (T.glo 50) (am_cons (em_var 2) am_nil))))
      (sm_one (st_ret (em_and (eg_call (df__law_tables_right_3 T) (hr.mono (by decide)) (T.glo 48) (am_cons (em_var 1) (am_cons (em_var 2) (am_cons (em_var 3) am_nil)))) (em_one (eg_call (df__law_tables_right_3 T) (hr.mono (by decide)) (T.glo 48) (am_cons (em_var 1) (am_cons (em_var 2) (am_cons (em_var 3) am_nil)))))))))))
end
end W

set_option maxRecDepth 100000
set_option maxHeartbeats 0
/-! printed by gen.py: the head and the end -/
namespace W
open PySem PySem.Spec L2 Mi
def names0 : List Str := ["_wall", "HelmError", "BadField", "BadNumber", "ZERO", "ONE", "is_whole", "lowest", "make_ratio", "ratio_plus", "ratio_minus", "ratio_times", "ratio_over", "zero_row", "unit_row", "unit_table", "row_plus", "row_minus", "row_times", "dot", "table_row", "row_table", "turned", "table_table", "table_plus", "is_prime", "inverse_rest", "Field", "_law_bag", "_law_draw"]
def names1 : List Str := ["_law_prime", "_law_gcd", "_law_make", "_law_plus", "_law_times", "_law_minus", "_law_dot", "_law_unit", "_law_zero", "_law_number", "_law_row", "_law_list", "_law_kinds", "_law_tables_right"]
def names : List Str := names0 ++ names1
abbrev R0 : PySem.W.OpenRow := PySem.W.OpenLaw.row PySem.Challenge.rw_untaughthelm_k06_rows_and_tables
abbrev hk : PySem.W.Hook := hookM 6 fa fn xf
def ob (s : PySem.W.SharedT) : AlM := obsM 6 fa fn xf (HandSHeadRun.getT s)
theorem ob_eq (s : PySem.W.SharedT) : ob s = hk.obs s.abs := obsM_eq (HandSHeadRun.getT_eq s)
theorem run (w : World) : HandSHeadRun.RunEqI R0 (PySem.W.view R0.prog [0, 50]) hk ob 6000 names w := by
  delta HandSHeadRun.RunEqI
  kernel_rfl
end W
open PySem PySem.W PySem.Calls PyProof.Rows
theorem W.ends (hl : ∀ ns : List Int, ns.length ≤ 63 → ∃ z, W.F_law [Mi.AV.lstR (ns.map Mi.AV.int)] [] = .ok (.bl true) z) : PySem.Challenge.rw_untaughthelm_k06_rows_and_tables.Holds := by
  w_on; o_law
  refine HandSHeadRun.head_imp (r := OpenLaw.row PySem.Challenge.rw_untaughthelm_k06_rows_and_tables) (q := view (OpenLaw.row PySem.Challenge.rw_untaughthelm_k06_rows_and_tables).prog [0, 50]) (H := W.hk) (ob := W.ob) (M := 6000) (loose := W.names) (d := HandSHeadRun.topDef (OpenLaw.row PySem.Challenge.rw_untaughthelm_k06_rows_and_tables).prog 50) (kwd := []) W.ob_eq
     W.run (by kernel_rfl) (by kernel_rfl) (by kernel_rfl) (by rfl) (by first | assumption | decide +kernel) (by decide +kernel) ⟨rfl, rfl, rfl, rfl, rfl, by decide +kernel⟩ ?hw ?hc
  case hw => w_witness2
  case hc =>
    refine Mi.walk_ofG (l := PySem.Challenge.rw_untaughthelm_k06_rows_and_tables) (n := 63) (k := 9) (x := "script") (CX := L2.CX0) rfl (by decide) (by kernel_rfl) ⟨rfl, by decide, by decide⟩ ?F (fun _ _ _ _ z => z)
    intro w mg fa h Y G hmg0
    obtain ⟨K, KX, c⟩ := Y
    have hmg : mg ("law" : PySem.Str) = some (.ref fa) := by
      have e : (HandSHeadRun.topDef (OpenLaw.row PySem.Challenge.rw_untaughthelm_k06_rows_and_tables).prog 50).name = ("law" : PySem.Str) := by kernel_rfl
      rw [← e]
      exact hmg0
    have T : Mi.TX W.fa W.fn W.xf K mg := ⟨c, h, KX, G⟩
    have e := hmg.symm.trans (T.glo 53)
    cases e
    obtain ⟨fd, F, _⟩ := W.fk_law (P := (PySem.Challenge.rw_untaughthelm_k06_rows_and_tables).prog) (w := w) (base := h) T
    have b := L2.FunD.bindsA (ps := ["script"]) F fun _ _ _ _ _ _ us hl => match us, hl with | [_], _ => rfl
    refine ⟨K, fd, _, KX, fun s v => b s [v] rfl, fun H a ns hn _ hS => Mi.law_sp hS (hl ns hn), fun base _ _ => ?_⟩
    obtain ⟨fd2, F2, OK⟩ := W.fk_law (P := (PySem.Challenge.rw_untaughthelm_k06_rows_and_tables).prog) (w := w) (base := base) T
    have : fd2 = fd := Mi.fd_one F2 F
    rw [← this]
    exact OK

theorem PySem.Challenge.cw_untaughthelm_k06_rows_and_tables_holds : PySem.Challenge.rw_untaughthelm_k06_rows_and_tables.Holds :=
  W.ends W.law_ev
