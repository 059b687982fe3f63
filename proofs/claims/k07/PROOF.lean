import PyProof.Rows.All
import Wide.All
import OpenK.AllK
import Wide.FinOn
import HandS.ForMost
import HandS.Exc
import HandS.WordsExc
import HandS.ExcInit
import HandS.Wide
import HandS.TupAny
import HandS.Style
import HandS.Deep
import HandS.IsInst
import HandS.Flow
import HandS.Records
import HandS.CallSlots
import HandS.ExcOwn
import HandS.Iter
import HandS.More
import HandS.Zip
import HandS.Rev
import HandS.Text
import HandS.EndBits
import HandS.Dict
import HandS.RaiseMore
import HandS.Replace
import KE.KOpsOwn
import HandS.MakeKwOnly
import KE.KExcInit
import HandS.ExcField
import HandS.TryOnly
import KE.KExcLine
import KE.GoesEnum
import HandS.DictComp
import HandS.OwnEq
import PySem.Challenge.RW_tworows_k07_parts_of_a_test
set_option Elab.async false
set_option linter.all false
set_option maxRecDepth 100000
/-! TRA: pure data, slots, the relation between a frame's slots and pure data. -/
namespace TR
open PySem PySem.Spec L2
set_option autoImplicit false

/-- pure data -/
inductive PV where
  | non | bl (b : Bool) | int (i : Int) | str (s : Str)
  | lst (xs : List PV) | tup (xs : List PV) | dct (kvs : List (Key × PV)) | obj (c : Nat) (fs : List (Str × PV))

/-- what a world of a law gives: the written part, the classes by number -/
structure Wd where
  K : PySem.W.Frag
  T : Nat → Addr → Prop
  E : Nat → Addr → Prop
  /-- the exception in hand: its object, class, dict -/
  xa : Option (Addr × Value × Option Addr)
/-- an own exception: its class by number, its fields -/
structure Ex where
  c : Nat
  fs : List (Str × PV)

mutual
def Rep (D : Wd) (G : Hp) : PV → V → Prop
  | .non, v => v = .non
  | .bl b, v => v = .bl b
  | .int i, v => v = .int i
  | .str i, v => v = .str i
  | .lst xs, v => ∃ a vs, v = .ref a ∧ SqL D.K G a vs ∧ Reps D G xs vs
  | .tup xs, v => ∃ a vs, v = .ref a ∧ SqT D.K G a vs ∧ Reps D G xs vs
  | .dct kvs, v => ∃ a ws, v = .ref a ∧ G a = some (.dK ws) ∧ RepD D G kvs ws
  | .obj c fs, v => ∃ a C dx ws, v = .ref a ∧ G a = some (.ins C dx ws) ∧ D.T c C ∧ RepF D G fs ws
def Reps (D : Wd) (G : Hp) : List PV → List V → Prop
  | [], vs => vs = []
  | x :: xs, vs => ∃ v r, vs = v :: r ∧ Rep D G x v ∧ Reps D G xs r
def RepD (D : Wd) (G : Hp) : List (Key × PV) → List (Key × V) → Prop
  | [], vs => vs = []
  | (k, x) :: xs, vs => ∃ v r, vs = (k, v) :: r ∧ Rep D G x v ∧ RepD D G xs r
def RepF (D : Wd) (G : Hp) : List (Str × PV) → List (Str × V) → Prop
  | [], vs => vs = []
  | (k, x) :: xs, vs => ∃ v r, vs = (k, v) :: r ∧ Rep D G x v ∧ RepF D G xs r
end

/-- the heap grows: what is to be read stays so -/
def LeG (G G' : Hp) : Prop := ∀ a u, G a = some u → G' a = some u
theorem LeG.rd {G G' : Hp} (h : LeG G G') {a : Addr} {u : HO} (x : Rd G a u) : Rd G' a u := by
  rcases x with x | ⟨o, x⟩
  · exact .inl (h _ _ x)
  · exact .inr ⟨o, h _ _ x⟩
theorem LeG.refl (G : Hp) : LeG G G := fun _ _ h => h
theorem LeG.trans {A B C : Hp} (h : LeG A B) (k : LeG B C) : LeG A C := fun a u x => k a u (h a u x)
theorem LeG.of_same {G G' : Hp} (h : ∀ a u, G a = some u → G' a = some u) : LeG G G' := h
theorem sqL_mono {K : PySem.W.Frag} {G G' : Hp} {a : Addr} {vs : List V} (l : LeG G G') (h : SqL K G a vs) : SqL K G' a vs := by
  rcases h with h | h
  · exact .inl (l.rd h)
  · exact .inr h
theorem sqT_mono {K : PySem.W.Frag} {G G' : Hp} {a : Addr} {vs : List V} (l : LeG G G') (h : SqT K G a vs) : SqT K G' a vs := by
  rcases h with h | h
  · exact .inl (l.rd h)
  · exact .inr h

mutual
theorem Rep.mono {D : Wd} {G G' : Hp} (l : LeG G G') : ∀ {x : PV} {v : V}, Rep D G x v → Rep D G' x v
  | .non, _, h => h
  | .bl _, _, h => h
  | .int _, _, h => h
  | .str _, _, h => h
  | .lst xs, _, h => by
    obtain ⟨a, vs, e, q, r⟩ := h
    exact ⟨a, vs, e, sqL_mono l q, Reps.mono l r⟩
  | .tup xs, _, h => by
    obtain ⟨a, vs, e, q, r⟩ := h
    exact ⟨a, vs, e, sqT_mono l q, Reps.mono l r⟩
  | .dct xs, _, h => by
    obtain ⟨a, vs, e, q, r⟩ := h
    exact ⟨a, vs, e, l _ _ q, RepD.mono l r⟩
  | .obj c xs, _, h => by
    obtain ⟨a, C, dx, vs, e, q, t, r⟩ := h
    exact ⟨a, C, dx, vs, e, l _ _ q, t, RepF.mono l r⟩
theorem Reps.mono {D : Wd} {G G' : Hp} (l : LeG G G') : ∀ {xs : List PV} {vs : List V}, Reps D G xs vs → Reps D G' xs vs
  | [], _, h => h
  | x :: xs, _, h => by
    obtain ⟨v, r, e, h1, h2⟩ := h
    exact ⟨v, r, e, Rep.mono l h1, Reps.mono l h2⟩
theorem RepD.mono {D : Wd} {G G' : Hp} (l : LeG G G') : ∀ {xs : List (Key × PV)} {vs : List (Key × V)}, RepD D G xs vs → RepD D G' xs vs
  | [], _, h => h
  | (k, x) :: xs, _, h => by
    obtain ⟨v, r, e, h1, h2⟩ := h
    exact ⟨v, r, e, Rep.mono l h1, RepD.mono l h2⟩
theorem RepF.mono {D : Wd} {G G' : Hp} (l : LeG G G') : ∀ {xs : List (Str × PV)} {vs : List (Str × V)}, RepF D G xs vs → RepF D G' xs vs
  | [], _, h => h
  | (k, x) :: xs, _, h => by
    obtain ⟨v, r, e, h1, h2⟩ := h
    exact ⟨v, r, e, Rep.mono l h1, RepF.mono l h2⟩
end

theorem Reps.length {D : Wd} {G : Hp} : ∀ {xs : List PV} {vs : List V}, Reps D G xs vs → vs.length = xs.length
  | [], _, h => by rw [show _ = [] from h]; rfl
  | x :: xs, _, h => by
    obtain ⟨v, r, rfl, h1, h2⟩ := h
    simp [Reps.length h2]
theorem Reps.get {D : Wd} {G : Hp} : ∀ {xs : List PV} {vs : List V} {i : Nat} {x : PV}, Reps D G xs vs → xs[i]? = some x → ∃ v, vs[i]? = some v ∧ Rep D G x v
  | [], _, i, x, h, e => by simp at e
  | y :: ys, _, 0, x, h, e => by
    obtain ⟨v, r, rfl, h1, h2⟩ := h
    simp at e; subst e
    exact ⟨v, rfl, h1⟩
  | y :: ys, _, i + 1, x, h, e => by
    obtain ⟨v, r, rfl, h1, h2⟩ := h
    simp at e
    obtain ⟨w, e1, e2⟩ := Reps.get h2 e
    exact ⟨w, by simpa using e1, e2⟩
theorem Reps.append {D : Wd} {G : Hp} : ∀ {xs ys : List PV} {vs ws : List V}, Reps D G xs vs → Reps D G ys ws → Reps D G (xs ++ ys) (vs ++ ws)
  | [], _, _, _, h, k => by rw [show _ = [] from h]; exact k
  | x :: xs, ys, _, ws, h, k => by
    obtain ⟨v, r, rfl, h1, h2⟩ := h
    exact ⟨v, r ++ ws, rfl, h1, Reps.append h2 k⟩
theorem Reps.one {D : Wd} {G : Hp} {x : PV} {v : V} (h : Rep D G x v) : Reps D G [x] [v] := ⟨v, [], rfl, h, rfl⟩
theorem Reps.take {D : Wd} {G : Hp} : ∀ {xs : List PV} {vs : List V} (n : Nat), Reps D G xs vs → Reps D G (xs.take n) (vs.take n)
  | [], _, n, h => by rw [show _ = [] from h]; simp [Reps]
  | x :: xs, _, 0, h => by simp [Reps]
  | x :: xs, _, n + 1, h => by
    obtain ⟨v, r, rfl, h1, h2⟩ := h
    exact ⟨v, r.take n, rfl, h1, Reps.take n h2⟩
theorem Reps.drop {D : Wd} {G : Hp} : ∀ {xs : List PV} {vs : List V} (n : Nat), Reps D G xs vs → Reps D G (xs.drop n) (vs.drop n)
  | [], _, n, h => by rw [show _ = [] from h]; simp [Reps]
  | x :: xs, _, 0, h => h
  | x :: xs, _, n + 1, h => by
    obtain ⟨v, r, rfl, h1, h2⟩ := h
    exact Reps.drop n h2
theorem Reps.set {D : Wd} {G : Hp} : ∀ {xs : List PV} {vs : List V} (n : Nat) {y : PV} {w : V}, Reps D G xs vs → Rep D G y w → Reps D G (xs.set n y) (vs.set n w)
  | [], _, n, _, _, h, k => by rw [show _ = [] from h]; simp [Reps]
  | x :: xs, _, 0, _, _, h, k => by
    obtain ⟨v, r, rfl, h1, h2⟩ := h
    exact ⟨_, r, rfl, k, h2⟩
  | x :: xs, _, n + 1, _, _, h, k => by
    obtain ⟨v, r, rfl, h1, h2⟩ := h
    exact ⟨v, _, rfl, h1, Reps.set n h2 k⟩
theorem Reps.get_none {D : Wd} {G : Hp} {xs : List PV} {vs : List V} {i : Nat} (h : Reps D G xs vs) (e : xs[i]? = none) : vs[i]? = none := by
  have := h.length
  rw [List.getElem?_eq_none_iff] at e ⊢
  omega
theorem RepD.length {D : Wd} {G : Hp} : ∀ {xs : List (Key × PV)} {vs : List (Key × V)}, RepD D G xs vs → vs.length = xs.length
  | [], _, h => by rw [show _ = [] from h]; rfl
  | (k, x) :: xs, _, h => by
    obtain ⟨v, r, rfl, h1, h2⟩ := h
    simp [RepD.length h2]

def ERep (D : Wd) (G : Hp) (c : Value) (d : Option Addr) (e : Ex) : Prop := ∃ C dx ws, c = .ref C ∧ D.E e.c C ∧ d = some dx ∧ G dx = some (.xd ws) ∧ RepF D G e.fs ws
theorem ERep.mono {D : Wd} {G G' : Hp} (l : LeG G G') {c : Value} {d : Option Addr} {e : Ex} (h : ERep D G c d e) : ERep D G' c d e := by
  obtain ⟨C, dx, ws, h1, h2, h3, h4, h5⟩ := h
  exact ⟨C, dx, ws, h1, h2, h3, l _ _ h4, h5.mono l⟩
/-- a list or dict that the frame may change -/
inductive MO where
  | lst (xs : List PV) | dct (kvs : List (Key × PV)) | obj (c : Nat) (fs : List (Str × PV))
def MO.pv : MO → PV
  | .lst xs => .lst xs
  | .dct kvs => .dct kvs
  | .obj c fs => .obj c fs
/-- a slot: nothing known, a value, or an own object (b: it is the caller's) -/
inductive Slot where
  | non | val (x : PV) | own (b : Bool) (o : MO) | exn (e : Ex)
abbrev Ev := List Slot

def MRep (D : Wd) (G H : Hp) (a : Addr) : MO → Prop
  | .lst xs => ∃ vs, H a = some (.lst vs) ∧ Reps D G xs vs
  | .dct kvs => ∃ ws, H a = some (.dK ws) ∧ RepD D G kvs ws
  | .obj c fs => ∃ C dx ws, H a = some (.ins C dx ws) ∧ D.T c C ∧ RepF D G fs ws
theorem MRep.some {D : Wd} {G H : Hp} {a : Addr} {m : MO} (h : MRep D G H a m) : ∃ o, H a = some o := by
  cases m with
  | lst xs => obtain ⟨vs, e, _⟩ := h; exact ⟨_, e⟩
  | dct xs => obtain ⟨vs, e, _⟩ := h; exact ⟨_, e⟩
  | obj c xs => obtain ⟨_, _, vs, e, _⟩ := h; exact ⟨_, e⟩
theorem MRep.mono {D : Wd} {G H G' H' : Hp} {a : Addr} {m : MO} (l : LeG G G') (e : H' a = H a) (h : MRep D G H a m) : MRep D G' H' a m := by
  cases m with
  | lst xs => obtain ⟨vs, e1, r⟩ := h; exact ⟨vs, e.trans e1, r.mono l⟩
  | dct xs => obtain ⟨vs, e1, r⟩ := h; exact ⟨vs, e.trans e1, r.mono l⟩
  | obj c xs => obtain ⟨C, dx, vs, e1, t, r⟩ := h; exact ⟨C, dx, vs, e.trans e1, t, r.mono l⟩

def SOk (D : Wd) (G H : Hp) (o : Option (Option V)) : Slot → Prop
  | .non => True
  | .val x => ∃ v, o = some (some v) ∧ Rep D G x v
  | .own b m => ∃ a, o = some (some (.ref a)) ∧ G a = none ∧ MRep D G H a m
  | .exn e => ∃ a c d, D.xa = some (a, c, d) ∧ o = some (some (.ref a)) ∧ ERep D G c d e

def Ow (σ : St) (ρ : Ev) (a : Addr) : Prop := ∃ (i : Nat) (b : Bool) (m : MO), ρ[i]? = some (.own b m) ∧ σ[i]? = some (some (.ref a))
def OwF (σ : St) (ρ : Ev) (a : Addr) : Prop := ∃ (i : Nat) (m : MO), ρ[i]? = some (.own false m) ∧ σ[i]? = some (some (.ref a))
theorem OwF.ow {σ : St} {ρ : Ev} {a : Addr} (h : OwF σ ρ a) : Ow σ ρ a := let ⟨i, m, e, f⟩ := h; ⟨i, false, m, e, f⟩

structure Abs (D : Wd) (G H : Hp) (σ : St) (ρ : Ev) : Prop where
  le : LeG G H
  len : σ.length = ρ.length
  sl : ∀ (i : Nat) (s : Slot), ρ[i]? = some s → SOk D G H σ[i]? s
  inj : ∀ (i j : Nat) (b : Bool) (m : MO) (b' : Bool) (m' : MO) (a : Addr), ρ[i]? = some (.own b m) → ρ[j]? = some (.own b' m') → σ[i]? = some (some (.ref a)) → σ[j]? = some (some (.ref a)) → i = j

theorem Abs.own {D : Wd} {G H : Hp} {σ : St} {ρ : Ev} (A : Abs D G H σ ρ) {i : Nat} {b : Bool} {m : MO} (e : ρ[i]? = some (.own b m)) : ∃ a, σ[i]? = some (some (.ref a)) ∧ G a = none ∧ MRep D G H a m := A.sl i _ e
theorem Abs.val {D : Wd} {G H : Hp} {σ : St} {ρ : Ev} (A : Abs D G H σ ρ) {i : Nat} {x : PV} (e : ρ[i]? = some (.val x)) : ∃ v, σ[i]? = some (some v) ∧ Rep D G x v := A.sl i _ e
theorem Abs.ow_some {D : Wd} {G H : Hp} {σ : St} {ρ : Ev} (A : Abs D G H σ ρ) {a : Addr} (h : Ow σ ρ a) : (∃ o, H a = some o) ∧ G a = none := by
  obtain ⟨i, b, m, e, f⟩ := h
  obtain ⟨a', e', g, r⟩ := A.own e
  rw [f] at e'
  cases e'
  exact ⟨r.some, g⟩

/-- from a state to a later one -/
structure Nx (D : Wd) (G H : Hp) (σ : St) (ρ : Ev) (G' H' : Hp) (σ' : St) (ρ' : Ev) : Prop where
  abs : Abs D G' H' σ' ρ'
  g : ∀ a u, G a = some u → G' a = some u
  k : ∀ a o, H a = some o → ¬ Ow σ ρ a → H' a = some o
  d : ∀ a, H' a = none → H a = none
  f : ∀ a u, G' a = some u → G a = some u ∨ H a = none ∨ OwF σ ρ a
  w : ∀ a, Ow σ' ρ' a → Ow σ ρ a ∨ H a = none
  br : ∀ (i : Nat) (m : MO), ρ[i]? = some (.own true m) → (∃ m', ρ'[i]? = some (.own true m')) ∧ σ'[i]? = σ[i]?
  nb : ∀ (i : Nat) (m : MO), ρ'[i]? = some (.own true m) → ∃ m', ρ[i]? = some (.own true m')
section
variable {D : Wd} {G H G1 H1 G2 H2 : Hp} {σ σ1 σ2 : St} {ρ ρ1 ρ2 : Ev}
theorem Nx.refl (A : Abs D G H σ ρ) : Nx D G H σ ρ G H σ ρ :=
  ⟨A, fun _ _ h => h, fun _ _ h _ => h, fun _ h => h, fun _ _ h => .inl h, fun _ h => .inl h, fun _ m h => ⟨⟨m, h⟩, rfl⟩, fun _ m h => ⟨m, h⟩⟩
theorem Nx.leg (n : Nx D G H σ ρ G1 H1 σ1 ρ1) : LeG G G1 := LeG.of_same n.g
theorem Nx.trans (n : Nx D G H σ ρ G1 H1 σ1 ρ1) (k : Nx D G1 H1 σ1 ρ1 G2 H2 σ2 ρ2) : Nx D G H σ ρ G2 H2 σ2 ρ2 where
  abs := k.abs
  g := fun a u h => k.g a u (n.g a u h)
  k := fun a o h no => k.k a o (n.k a o h no) fun w => by
    rcases n.w a w with w | w
    · exact no w
    · rw [h] at w; cases w
  d := fun a h => n.d a (k.d a h)
  f := fun a u h => by
    rcases k.f a u h with h | h | h
    · exact n.f a u h
    · exact .inr (.inl (n.d a h))
    · rcases n.w a h.ow with w | w
      · obtain ⟨i, b, m, e, f⟩ := w
        cases b with
        | false => exact .inr (.inr ⟨i, m, e, f⟩)
        | true =>
          obtain ⟨⟨m', e'⟩, f'⟩ := n.br i m e
          obtain ⟨j, mj, ej, fj⟩ := h
          have ij := n.abs.inj i j _ _ _ _ a e' ej (f'.trans f) fj
          subst ij
          rw [e'] at ej; cases ej
      · exact .inr (.inl w)
  w := fun a h => by
    rcases k.w a h with h | h
    · exact n.w a h
    · exact .inr (n.d a h)
  br := fun i m h => by
    obtain ⟨⟨m', e⟩, f⟩ := n.br i m h
    obtain ⟨q, f2⟩ := k.br i m' e
    exact ⟨q, f2.trans f⟩
  nb := fun i m h => by
    obtain ⟨m', e⟩ := k.nb i m h
    exact n.nb i m' e
/-- the heap and the frozen part grow, no slot is changed -/
structure Grow (G H G' H' : Hp) : Prop where
  le : LeG G' H'
  g : ∀ a u, G a = some u → G' a = some u
  k : ∀ a o, H a = some o → H' a = some o
  f : ∀ a u, G' a = some u → G a = some u ∨ H a = none
theorem Grow.leg (n : Grow G H G1 H1) : LeG G G1 := LeG.of_same n.g
theorem Grow.refl (l : LeG G H) : Grow G H G H := ⟨l, fun _ _ h => h, fun _ _ h => h, fun _ _ h => .inl h⟩
theorem Grow.trans (n : Grow G H G1 H1) (k : Grow G1 H1 G2 H2) : Grow G H G2 H2 :=
  ⟨k.le, fun a u h => k.g a u (n.g a u h), fun a o h => k.k a o (n.k a o h), fun a u h => by
    rcases k.f a u h with h | h
    · exact n.f a u h
    · refine .inr ?_
      cases q : H a with
      | none => rfl
      | some o => rw [n.k a o q] at h; cases h⟩
theorem Abs.grow (A : Abs D G H σ ρ) (n : Grow G H G1 H1) : Nx D G H σ ρ G1 H1 σ ρ where
  abs := by
    refine ⟨n.le, A.len, fun i s e => ?_, A.inj⟩
    have q := A.sl i s e
    cases s with
    | non => trivial
    | val x => obtain ⟨v, e1, r⟩ := q; exact ⟨v, e1, r.mono n.leg⟩
    | exn x => obtain ⟨a, c, d, e1, e2, r⟩ := q; exact ⟨a, c, d, e1, e2, r.mono n.leg⟩
    | own b m =>
      obtain ⟨a, e1, ga, r⟩ := q
      obtain ⟨o, ho⟩ := r.some
      refine ⟨a, e1, ?_, r.mono n.leg ((n.k a o ho).trans ho.symm)⟩
      cases q : G1 a with
      | none => rfl
      | some u =>
        rcases n.f a u q with z | z
        · rw [ga] at z; cases z
        · rw [ho] at z; cases z
  g := n.g
  k := fun a o h _ => n.k a o h
  d := fun a h => by
    cases q : H a with
    | none => rfl
    | some o => rw [n.k a o q] at h; cases h
  f := fun a u h => by
    rcases n.f a u h with z | z
    · exact .inl z
    · exact .inr (.inl z)
  w := fun a h => .inl h
  br := fun i m h => ⟨⟨m, h⟩, rfl⟩
  nb := fun i m h => ⟨m, h⟩
/-- a new frozen object -/
theorem Grow.new {p : Addr} {o : HO} (l : LeG G H) (hp : H p = none) : Grow G H (upd G p o) (upd H p o) := by
  have gp : G p = none := by
    cases q : G p with
    | none => rfl
    | some u =>
      have z := l p u q
      rw [hp] at z; cases z
  refine ⟨fun a u h => ?_, fun a u h => ?_, fun a u h => ?_, fun a u h => ?_⟩
  · by_cases e : a = p
    · subst e
      rw [upd_same] at h; exact upd_same.trans h
    · rw [upd_ne e] at h
      exact (upd_ne e).trans (l a u h)
  · by_cases e : a = p
    · subst e; rw [gp] at h; cases h
    · exact (upd_ne e).trans h
  · by_cases e : a = p
    · subst e; rw [hp] at h; cases h
    · exact (upd_ne e).trans h
  · by_cases e : a = p
    · subst e; exact .inr hp
    · rw [upd_ne e] at h; exact .inl h
/-- a new object that is not frozen -/
theorem Grow.newH {p : Addr} {o : HO} (l : LeG G H) (hp : H p = none) : Grow G H G (upd H p o) := by
  refine ⟨fun a u h => ?_, fun a u h => h, fun a u h => ?_, fun a u h => .inl h⟩
  · have e : a ≠ p := fun e => by
      subst e
      have z := l a u h
      rw [hp] at z; cases z
    exact (upd_ne e).trans (l a u h)
  · by_cases e : a = p
    · subst e; rw [hp] at h; cases h
    · exact (upd_ne e).trans h
end
end TR

set_option Elab.async false
set_option linter.all false
set_option maxRecDepth 100000
/-! TRB: outcomes, readings of pure meaning, the judgements' composition. -/
namespace TR
open PySem PySem.Spec L2
set_option autoImplicit false

inductive Out (α : Type) where
  | ok (x : α) (ρ : Ev) | exc (e : Ex) (ρ : Ev) | stuck
def Out.bind {α β : Type} (o : Out α) (k : α → Ev → Out β) : Out β :=
  match o with
  | .ok x ρ => k x ρ
  | .exc e ρ => .exc e ρ
  | .stuck => .stuck
@[simp] theorem Out.bind_ok {α β : Type} (x : α) (ρ : Ev) (k : α → Ev → Out β) : (Out.ok x ρ).bind k = k x ρ := (rfl)
@[simp] theorem Out.bind_exc {α β : Type} (e : Ex) (ρ : Ev) (k : α → Ev → Out β) : (Out.exc e ρ : Out α).bind k = .exc e ρ := (rfl)
@[simp] theorem Out.bind_stuck {α β : Type} (k : α → Ev → Out β) : (Out.stuck : Out α).bind k = .stuck := (rfl)
abbrev EM (α : Type) := Ev → Out α
def lift {α : Type} (o : Option α) (ρ : Ev) : Out α :=
  match o with
  | some x => .ok x ρ
  | none => .stuck
@[simp] theorem lift_some {α : Type} (x : α) (ρ : Ev) : lift (some x) ρ = .ok x ρ := (rfl)
@[simp] theorem lift_none {α : Type} (ρ : Ev) : lift (none : Option α) ρ = .stuck := (rfl)

/-- what is wanted of an outcome from the state (G, H, σ, ρ) -/
def Kg {α : Type} (D : Wd) (W : WX) (o : Out α) (G H : Hp) (σ : St) (ρ : Ev) (P : α → Ev → Hp → Hp → Prop) : Prop :=
  match o with
  | .ok x ρ' => ∀ G' H', Nx D G H σ ρ G' H' σ ρ' → P x ρ' G' H'
  | .exc e ρ' => ∀ G' H' c d, Nx D G H σ ρ G' H' σ ρ' → ERep D G' c d e → W c d σ H'
  | .stuck => False
section
variable {D : Wd} {W : WX} {α β : Type} {G H G1 H1 : Hp} {σ : St} {ρ ρ1 : Ev}
theorem Kg.mono {o : Out α} {P P' : α → Ev → Hp → Hp → Prop} (h : Kg D W o G H σ ρ P) (i : ∀ x ρ' G' H', Nx D G H σ ρ G' H' σ ρ' → P x ρ' G' H' → P' x ρ' G' H') : Kg D W o G H σ ρ P' := by
  cases o with
  | ok x ρ' => exact fun G' H' n => i _ _ _ _ n (h G' H' n)
  | exc e ρ' => exact h
  | stuck => exact h
theorem Kg.bind {o : Out α} {k : α → Ev → Out β} {P : β → Ev → Hp → Hp → Prop} (h : Kg D W (o.bind k) G H σ ρ P) : Kg D W o G H σ ρ fun x ρ1 G1 H1 => Kg D W (k x ρ1) G1 H1 σ ρ1 P := by
  cases o with
  | ok x ρ1 =>
    intro G1 H1 n
    have h' : Kg D W (k x ρ1) G H σ ρ P := h
    revert h'
    cases k x ρ1 with
    | ok y ρ2 => exact fun h' G2 H2 n2 => h' G2 H2 (n.trans n2)
    | exc e ρ2 => exact fun h' G2 H2 c d n2 => h' G2 H2 c d (n.trans n2)
    | stuck => exact fun h' => h'
  | exc e ρ' => exact h
  | stuck => exact h
theorem Kg.lift {o : Option α} {P : α → Ev → Hp → Hp → Prop} (A : Abs D G H σ ρ) (h : Kg D W (lift o ρ) G H σ ρ P) : ∃ x, o = some x ∧ ∀ G' H', Grow G H G' H' → P x ρ G' H' := by
  cases o with
  | none => exact False.elim h
  | some x => exact ⟨x, rfl, fun G' H' g => h G' H' (A.grow g)⟩
end

/-- readings: of an expression (its value is frozen), of a peek, of a test -/
def tE (D : Wd) (W : WX) (m : EM PV) : TE := fun σ H Q => ∃ G ρ, Abs D G H σ ρ ∧ Kg D W (m ρ) G H σ ρ fun x ρ' G' H' => ∀ v, Rep D G' x v → Q v H'
/-- a value that may be an own list or dict at its top -/
def RepH (D : Wd) (G H : Hp) (x : PV) (v : V) : Prop := match x with
  | .lst xs => ∃ a vs, v = .ref a ∧ SqL D.K H a vs ∧ Reps D G xs vs
  | .dct kvs => ∃ a ws, v = .ref a ∧ H a = some (.dK ws) ∧ RepD D G kvs ws
  | .obj c fs => ∃ a C dx ws, v = .ref a ∧ H a = some (.ins C dx ws) ∧ D.T c C ∧ RepF D G fs ws
  | x => Rep D G x v
theorem Rep.toH {D : Wd} {G H : Hp} {x : PV} {v : V} (l : LeG G H) (h : Rep D G x v) : RepH D G H x v := by
  cases x with
  | lst xs => obtain ⟨a, vs, e, q, r⟩ := h; exact ⟨a, vs, e, sqL_mono l q, r⟩
  | dct xs => obtain ⟨a, vs, e, q, r⟩ := h; exact ⟨a, vs, e, l _ _ q, r⟩
  | obj c xs => obtain ⟨a, C, dx, vs, e, q, t, r⟩ := h; exact ⟨a, C, dx, vs, e, l _ _ q, t, r⟩
  | _ => exact h
def tP (D : Wd) (W : WX) (m : EM PV) : TE := fun σ H Q => ∃ G ρ, Abs D G H σ ρ ∧ Kg D W (m ρ) G H σ ρ fun x ρ' G' H' => ∀ v, RepH D G' H' x v → Q v H'
def tB (D : Wd) (W : WX) (m : EM Bool) : TT := fun σ H Q => ∃ G ρ, Abs D G H σ ρ ∧ Kg D W (m ρ) G H σ ρ fun x _ _ H' => Q x H'
abbrev RE (D : Wd) (W : WX) (X : Cx) (e : Expr) (m : EM PV) : Prop := PE X e (tE D W m)
abbrev RP (D : Wd) (W : WX) (X : Cx) (e : Expr) (m : EM PV) : Prop := PE X e (tP D W m)
abbrev RB (D : Wd) (W : WX) (X : Cx) (e : Expr) (m : EM Bool) : Prop := PT X e (tB D W m)
abbrev RW (D : Wd) (W : WX) (X : Cx) (e : Expr) (m : EM Bool) : Prop := PW X e (tB D W m)

theorem _root_.L2.PE.imp {X : Cx} {e : Expr} {t t' : TE} (h : PE X e t) (i : ∀ σ H Q, t' σ H Q → t σ H Q) : PE X e t' := ⟨fun pins s σ H Q I w => h.run pins s σ H Q I (i _ _ _ w)⟩
theorem _root_.L2.PT.imp {X : Cx} {e : Expr} {t t' : TT} (h : PT X e t) (i : ∀ σ H Q, t' σ H Q → t σ H Q) : PT X e t' := ⟨fun pins s σ H Q I w => h.run pins s σ H Q I (i _ _ _ w)⟩
theorem _root_.L2.PW.imp {X : Cx} {e : Expr} {t t' : TT} (h : PW X e t) (i : ∀ σ H Q, t' σ H Q → t σ H Q) : PW X e t' := ⟨fun wh pins s σ H Q I w => h.run wh pins s σ H Q I (i _ _ _ w)⟩
theorem _root_.L2.PA.imp {X : Cx} {es : List Expr} {t t' : TA} (h : PA X es t) (i : ∀ σ H Q, t' σ H Q → t σ H Q) : PA X es t' := ⟨fun pos pins s σ H Q I w => h.run pos pins s σ H Q I (i _ _ _ w)⟩
theorem _root_.L2.PS.imp {X : Cx} {st : Stmt} {t t' : TS} (h : PS X st t) (i : ∀ D σ H, t' D σ H → t D σ H) : PS X st t' := ⟨fun pins s σ H D I w => h.run pins s σ H D I (i _ _ _ w)⟩
theorem _root_.L2.PSs.imp {X : Cx} {st : List Stmt} {t t' : TS} (h : PSs X st t) (i : ∀ D σ H, t' D σ H → t D σ H) : PSs X st t' := ⟨fun pins s σ H D I w => h.run pins s σ H D I (i _ _ _ w)⟩

section
variable {D : Wd} {W : WX} {X : Cx} {e : Expr}
/-- a frozen value serves as a peek -/
theorem rp_of {m : EM PV} (h : RE D W X e m) : RP D W X e m := h.imp fun σ H Q ⟨G, ρ, A, k⟩ => ⟨G, ρ, A, k.mono fun _ _ _ _ n f v r => f v (r.toH n.abs.le)⟩

/-! ### names -/
def Slot.peek : Slot → Option PV
  | .val x => some x
  | .own _ m => some m.pv
  | .non => none
  | .exn _ => none
/-- what a slot holds, as it stands now -/
def peek (i : Nat) : EM PV := fun ρ => match ρ[i]? with
  | some s => lift s.peek ρ
  | none => .stuck
theorem peek_rep {G H : Hp} {σ : St} {ρ : Ev} {i : Nat} {x : PV} {s : Slot} (A : Abs D G H σ ρ) (e : ρ[i]? = some s) (p : s.peek = some x) : ∃ v, σ[i]? = some (some v) ∧ RepH D G H x v := by
  have q := A.sl i s e
  cases s with
  | non => cases p
  | exn y => cases p
  | val y =>
    cases p
    obtain ⟨v, e1, r⟩ := q
    exact ⟨v, e1, r.toH A.le⟩
  | own b m =>
    cases p
    obtain ⟨a, e1, _, r⟩ := q
    refine ⟨_, e1, ?_⟩
    cases m with
    | lst xs => obtain ⟨vs, h, r⟩ := r; exact ⟨a, vs, rfl, .inl (.inl h), r⟩
    | dct xs => obtain ⟨vs, h, r⟩ := r; exact ⟨a, vs, rfl, h, r⟩
    | obj c xs => obtain ⟨C, dx, vs, h, t, r⟩ := r; exact ⟨a, C, dx, vs, rfl, h, t, r⟩
theorem peek_ok {G H : Hp} {σ : St} {ρ : Ev} {i : Nat} {P : PV → Ev → Hp → Hp → Prop} (A : Abs D G H σ ρ) (k : Kg D W (peek i ρ) G H σ ρ P) : ∃ x v, σ[i]? = some (some v) ∧ RepH D G H x v ∧ P x ρ G H := by
  unfold peek at k
  cases e : ρ[i]? with
  | none => rw [e] at k; exact False.elim k
  | some s =>
    rw [e] at k
    obtain ⟨x, p, f⟩ := Kg.lift A k
    obtain ⟨v, e1, r⟩ := peek_rep A e p
    exact ⟨x, v, e1, r, f G H (Grow.refl A.le)⟩
theorem rp_var (i : Nat) (h : PE X e (tVar i)) : RP D W X e (peek i) := h.imp fun σ H Q ⟨G, ρ, A, k⟩ => by
  obtain ⟨x, v, e1, r, f⟩ := peek_ok A k
  exact ⟨v, e1, f v r⟩
/-- a name whose slot holds a value -/
def getv (i : Nat) : EM PV := fun ρ => match ρ[i]? with
  | some (.val x) => .ok x ρ
  | some (.own false m) => .ok m.pv (ρ.set i (.val m.pv))
  | _ => .stuck
theorem Abs.freeze {G H : Hp} {σ : St} {ρ : Ev} {i : Nat} {m : MO} (A : Abs D G H σ ρ) (e : ρ[i]? = some (.own false m)) : ∃ a G', σ[i]? = some (some (.ref a)) ∧ Rep D G' m.pv (.ref a) ∧ Nx D G H σ ρ G' H σ (ρ.set i (.val m.pv)) := by
  obtain ⟨a, e1, ga, r⟩ := A.own e
  obtain ⟨o, ho⟩ := r.some
  have hi : i < ρ.length := (List.getElem?_eq_some_iff.mp e).1
  have gg : ∀ b u, G b = some u → upd G a o b = some u := fun b u h => by
    have : b ≠ a := fun z => by rw [z, ga] at h; cases h
    rw [upd_ne this]; exact h
  have lg : LeG G (upd G a o) := LeG.of_same gg
  have rp : Rep D (upd G a o) m.pv (.ref a) := by
    cases m with
    | lst xs =>
      obtain ⟨vs, h, r⟩ := r
      rw [ho] at h; cases h
      exact ⟨a, vs, rfl, .inl (.inl upd_same), r.mono lg⟩
    | dct xs =>
      obtain ⟨vs, h, r⟩ := r
      rw [ho] at h; cases h
      exact ⟨a, vs, rfl, upd_same, r.mono lg⟩
    | obj c xs =>
      obtain ⟨C, dx, vs, h, t, r⟩ := r
      rw [ho] at h; cases h
      exact ⟨a, C, dx, vs, rfl, upd_same, t, r.mono lg⟩
  have le : LeG (upd G a o) H := fun b u h => by
    by_cases hb : b = a
    · subst hb
      rw [upd_same] at h; cases h; exact ho
    · rw [upd_ne hb] at h; exact A.le _ _ h
  have back : ∀ (j : Nat) (b : Bool) (m' : MO), (ρ.set i (.val m.pv))[j]? = some (.own b m') → j ≠ i ∧ ρ[j]? = some (.own b m') := fun j b m' h => by
    by_cases z : j = i
    · subst z
      rw [List.getElem?_set_self hi] at h; cases h
    · rw [List.getElem?_set_ne (Ne.symm z)] at h; exact ⟨z, h⟩
  refine ⟨a, upd G a o, e1, rp, ⟨⟨le, by rw [List.length_set]; exact A.len, fun j s h => ?_, fun j k b m1 b' m2 c h1 h2 h3 h4 => A.inj j k b m1 b' m2 c (back _ _ _ h1).2 (back _ _ _ h2).2 h3 h4⟩, gg, fun _ _ h _ => h, fun _ h => h, fun b u h => ?_, fun b h => ?_, fun j m' h => ?_, fun j m' h => ?_⟩⟩
  · by_cases z : j = i
    · subst z
      rw [List.getElem?_set_self hi] at h; cases h
      exact ⟨_, e1, rp⟩
    · rw [List.getElem?_set_ne (Ne.symm z)] at h
      have q := A.sl j s h
      cases s with
      | non => trivial
      | val x => obtain ⟨v, e2, r2⟩ := q; exact ⟨v, e2, r2.mono lg⟩
      | exn x => obtain ⟨a2, c2, d2, e2, e3, r2⟩ := q; exact ⟨a2, c2, d2, e2, e3, r2.mono lg⟩
      | own b m' =>
        obtain ⟨c, e2, gc, r2⟩ := q
        refine ⟨c, e2, ?_, r2.mono lg rfl⟩
        rw [upd_ne]
        · exact gc
        · rintro rfl
          exact z (A.inj j i _ _ _ _ c h e e2 e1)
  · by_cases hb : b = a
    · subst hb; exact .inr (.inr ⟨i, m, e, e1⟩)
    · rw [upd_ne hb] at h; exact .inl h
  · obtain ⟨j, b', m', h1, h2⟩ := h
    exact .inl ⟨j, b', m', (back _ _ _ h1).2, h2⟩
  · have z : j ≠ i := by rintro rfl; rw [e] at h; cases h
    exact ⟨⟨m', by rw [List.getElem?_set_ne (Ne.symm z)]; exact h⟩, rfl⟩
  · exact ⟨m', (back _ _ _ h).2⟩
theorem re_var (i : Nat) (h : PE X e (tVar i)) : RE D W X e (getv i) := h.imp fun σ H Q ⟨G, ρ, A, k⟩ => by
  unfold getv at k
  split at k
  · rename_i x e
    obtain ⟨v, e1, r⟩ := A.val e
    exact ⟨v, e1, k G H (Nx.refl A) v r⟩
  · rename_i m e
    obtain ⟨a, G', e1, r, n⟩ := A.freeze e
    exact ⟨_, e1, k G' H n _ r⟩
  · exact False.elim k

/-! ### constants -/
def cst (x : PV) : EM PV := fun ρ => .ok x ρ
theorem re_cst {v : V} {x : PV} (h : PE X e (tC v)) (r : ∀ G, Rep D G x v) : RE D W X e (cst x) := h.imp fun σ H Q ⟨G, ρ, A, k⟩ => k G H (Nx.refl A) v (r G)
theorem re_int {i : Int} {j : Nat} {pos : Pos} : RE D W X (.Constant (.int i) j pos) (cst (.int i)) := re_cst pe_int fun _ => rfl
theorem re_bl {b : Bool} {j : Nat} {pos : Pos} : RE D W X (.Constant (.bool b) j pos) (cst (.bl b)) := re_cst pe_bl fun _ => rfl
theorem re_non {j : Nat} {pos : Pos} : RE D W X (.Constant .none j pos) (cst .non) := re_cst pe_non fun _ => rfl
theorem re_str {x : Str} {j : Nat} {pos : Pos} : RE D W X (.Constant (.str x) j pos) (cst (.str x)) := re_cst pe_str fun _ => rfl

/-! ### two operands -/
/-- a two-place operation by values answers the pure one -/
def Sn2 (D : Wd) (r : R2) (g : PV → PV → Option PV) : Prop := ∀ (G H : Hp) (x y z : PV) (v w : V) (Q : VK), LeG G H → RepH D G H x v → RepH D G H y w → g x y = some z →
  (∀ G' H' v', Grow G H G' H' → Rep D G' z v' → Q v' H') → r v w H Q
def bin (g : PV → PV → Option PV) (m1 m2 : EM PV) : EM PV := fun ρ => (m1 ρ).bind fun x ρ => (m2 ρ).bind fun y ρ => lift (g x y) ρ
/-- the left operand is a name: what it holds is looked at behind the right one -/
def binN (g : PV → PV → Option PV) (i : Nat) (m2 : EM PV) : EM PV := fun ρ => (peek i ρ).bind fun _ ρ => (m2 ρ).bind fun y ρ => (peek i ρ).bind fun x ρ => lift (g x y) ρ
theorem bin_le {r : R2} {g : PV → PV → Option PV} {m1 m2 : EM PV} (sn : Sn2 D r g) (σ : St) (H : Hp) (Q : VK) (h : tE D W (bin g m1 m2) σ H Q) : tOp r (tE D W m1) (tP D W m2) σ H Q := by
  obtain ⟨G, ρ, A, k⟩ := h
  refine ⟨G, ρ, A, (Kg.bind k).mono fun x ρ1 G1 H1 n1 k1 v rv => ⟨G1, ρ1, n1.abs, (Kg.bind k1).mono fun y ρ2 G2 H2 n2 k2 w rw' => ?_⟩⟩
  obtain ⟨z, e, f⟩ := Kg.lift n2.abs k2
  exact sn G2 H2 x y z v w Q n2.abs.le ((rv.mono n2.leg).toH n2.abs.le) rw' e fun G' H' v' g' r' => f G' H' g' v' r'
theorem binN_le {r : R2} {g : PV → PV → Option PV} {i : Nat} {m2 : EM PV} (sn : Sn2 D r g) (σ : St) (H : Hp) (Q : VK) (h : tE D W (binN g i m2) σ H Q) : tOp r (tVar i) (tP D W m2) σ H Q := by
  obtain ⟨G, ρ, A, k⟩ := h
  obtain ⟨x0, v, ev, r0, k0⟩ := peek_ok A (Kg.bind k)
  refine ⟨v, ev, G, ρ, A, (Kg.bind k0).mono fun y ρ2 G2 H2 n2 k2 w rw' => ?_⟩
  obtain ⟨x, v', ev', rv, k3⟩ := peek_ok n2.abs (Kg.bind k2)
  rw [ev] at ev'; cases ev'
  obtain ⟨z, e, f⟩ := Kg.lift n2.abs k3
  exact sn G2 H2 x y z v w Q n2.abs.le rv rw' e fun G' H' v' g' r' => f G' H' g' v' r'
theorem re_bin {op : Operator} {r : R2} {g : PV → PV → Option PV} {a b : Expr} {pos : Pos} {m1 m2 : EM PV} (ho : OpR X (binaryOp op) r) (sn : Sn2 D r g) (ha : RE D W X a m1) (hb : RP D W X b m2) : RE D W X (.BinOp a op b pos) (bin g m1 m2) :=
  (pe_op ho ha hb).imp (bin_le sn)
theorem re_binN {op : Operator} {r : R2} {g : PV → PV → Option PV} {a b : Expr} {pos : Pos} {i : Nat} {m2 : EM PV} (ho : OpR X (binaryOp op) r) (sn : Sn2 D r g) (ha : PE X a (tVar i)) (hb : RP D W X b m2) : RE D W X (.BinOp a op b pos) (binN g i m2) :=
  (pe_op ho ha hb).imp (binN_le sn)
theorem re_cmp {op : CmpOp} {r : R2} {g : PV → PV → Option PV} {a b : Expr} {pos : Pos} {m1 m2 : EM PV} (hm : behindInMarks op b = false) (ho : OpR X (compareOp op) r) (sn : Sn2 D r g) (ha : RE D W X a m1) (hb : RP D W X b m2) : RE D W X (.Compare a [op] [b] pos) (bin g m1 m2) :=
  (pe_cmpR ho ha hb hm).imp (bin_le sn)
theorem re_cmpN {op : CmpOp} {r : R2} {g : PV → PV → Option PV} {a b : Expr} {pos : Pos} {i : Nat} {m2 : EM PV} (hm : behindInMarks op b = false) (ho : OpR X (compareOp op) r) (sn : Sn2 D r g) (ha : PE X a (tVar i)) (hb : RP D W X b m2) : RE D W X (.Compare a [op] [b] pos) (binN g i m2) :=
  (pe_cmpR ho ha hb hm).imp (binN_le sn)
end
end TR

set_option Elab.async false
set_option linter.all false
set_option maxRecDepth 100000
/-! TRC: operators on pure data and their rules. -/
namespace TR
open PySem PySem.Spec L2
set_option autoImplicit false

/-- list + list, whatever the lists are (tracked, locked, written) -/
def rCatS (K : PySem.W.Frag) : R2 := fun x y H Q => ∃ l b xs zs, x = .ref l ∧ y = .ref b ∧ SqL K H l xs ∧ SqL K H b zs ∧ xs.length + zs.length ≤ sizeLine ∧ ∀ p, H p = none → Q (.ref p) (upd H p (.lst (xs ++ zs)))
theorem op_catS {X : Cx} : OpR X (binaryOp .Add) (rCatS X.K) := by
  intro pins s σ H x y v u Q I rx ry h
  obtain ⟨l, b, xs, zs, rfl, rfl, hH, hB, hz, q⟩ := h
  cases rx
  cases ry
  obtain ⟨its, r, p1, _⟩ := I.list hH
  obtain ⟨its2, r2, p2, _⟩ := I.list hB
  obtain ⟨⟨cls, dd, data, sl⟩, ho, hc, n, hd⟩ := id p1.isList
  obtain ⟨⟨cls2, dd2, data2, sl2⟩, ho2, hc2, n2, hd2⟩ := id p2.isList
  simp only at hc hd hc2 hd2
  subst hc hd hc2 hd2
  have hl := r.length
  have hl2 := r2.length
  refine concat_meets ⟨_, ho, rfl⟩ ⟨_, ho2, rfl⟩ noFill_list_add seq_list_add PySem.F.slot_list_add PySem.F.entry_list_add (PySem.F.args_list_add_2 _ _) (PyProof.Rows.list_addW l b its.toArray its2.toArray n n2 dd dd2 sl sl2 (by simp; omega)) ⟨ho, ho2, ?_⟩
  have ea : its.toArray ++ its2.toArray = (its ++ its2).toArray := by simp
  rw [ea]
  exact ⟨.ref _, _, I.lnew (t' := s.toks) (r.append r2) (by rw [List.length_append]; omega), rfl, q _ I.fresh⟩

section
variable {D : Wd} {W : WX} {X : Cx}
/-- nothing is made: the value goes on in the heap as it is -/
theorem flat2 {G H : Hp} {z : PV} {v : V} {Q : VK} (l : LeG G H) (r : Rep D G z v) (q : ∀ G' H' v', Grow G H G' H' → Rep D G' z v' → Q v' H') : Q v H := q G H v (Grow.refl l) r
theorem new2 {G H : Hp} {z : PV} {o : HO} {Q : VK} (l : LeG G H) (r : ∀ p, LeG G (upd G p o) → Rep D (upd G p o) z (.ref p)) (q : ∀ G' H' v', Grow G H G' H' → Rep D G' z v' → Q v' H') : ∀ p, H p = none → Q (.ref p) (upd H p o) :=
  fun p hp => q _ _ _ (Grow.new l hp) (r p (Grow.new l hp).leg)
/-- an element of the frozen items under a list that may be an own one -/
theorem RepH.lst {G H : Hp} {xs : List PV} {v : V} (h : RepH D G H (.lst xs) v) : ∃ a vs, v = .ref a ∧ SqL D.K H a vs ∧ Reps D G xs vs := h
theorem RepH.tup {G H : Hp} {xs : List PV} {v : V} (l : LeG G H) (h : RepH D G H (.tup xs) v) : ∃ a vs, v = .ref a ∧ SqT D.K H a vs ∧ Reps D G xs vs := by
  obtain ⟨a, vs, e, q, r⟩ := h
  exact ⟨a, vs, e, sqT_mono l q, r⟩

/-! ### + - * // % ** -/
def pyAdd : PV → PV → Option PV
  | .int i, .int j => some (.int (i + j))
  | .str a, .str b => if a.length + b.length ≤ sizeLine then some (.str (a ++ b)) else none
  | .lst xs, .lst ys => if xs.length + ys.length ≤ sizeLine then some (.lst (xs ++ ys)) else none
  | .tup xs, .tup ys => if xs.length + ys.length ≤ sizeLine then some (.tup (xs ++ ys)) else none
  | _, _ => none
def rAddP (K : PySem.W.Frag) : R2 := fun x y H Q => rI0 (fun i j => .int (i + j)) x y H Q ∨ (∃ i j, x = .str i ∧ y = .str j ∧ i.length + j.length ≤ sizeLine ∧ Q (.str (i ++ j)) H) ∨ rCatS K x y H Q ∨ rCatA K x y H Q
theorem op_addP : OpR X (binaryOp .Add) (rAddP X.K) := op_add.or (op_add_str.or (op_catS.or op_catA))
theorem sn_add : Sn2 D (rAddP D.K) pyAdd := by
  intro G H x y z v w Q l rx ry e q
  unfold pyAdd at e
  split at e
  · cases e; cases rx; cases ry
    exact .inl ⟨_, _, rfl, rfl, flat2 l (z := .int _) rfl q⟩
  · split at e
    · rename_i h
      cases e; cases rx; cases ry
      exact .inr (.inl ⟨_, _, rfl, rfl, h, flat2 l (z := .str _) rfl q⟩)
    · cases e
  · split at e
    · rename_i h
      cases e
      obtain ⟨a, vs, rfl, s1, r1⟩ := rx
      obtain ⟨b, ws, rfl, s2, r2⟩ := ry
      refine .inr (.inr (.inl ⟨a, b, vs, ws, rfl, rfl, s1, s2, by rw [r1.length, r2.length]; exact h, new2 (D := D) (z := .lst _) l (fun p lg => ⟨p, vs ++ ws, rfl, .inl (.inl upd_same), (r1.mono lg).append (r2.mono lg)⟩) q⟩))
    · cases e
  · split at e
    · rename_i h
      cases e
      obtain ⟨a, vs, rfl, s1, r1⟩ := rx.tup l
      obtain ⟨b, ws, rfl, s2, r2⟩ := ry.tup l
      refine .inr (.inr (.inr ⟨a, b, vs, ws, rfl, rfl, s1, s2, by rw [r1.length, r2.length]; exact h, fun e0 => ?_, fun e0 e1 => ?_, fun _ _ => new2 (D := D) (z := .tup _) l (fun p lg => ⟨p, vs ++ ws, rfl, .inl (.inl upd_same), (r1.mono lg).append (r2.mono lg)⟩) q⟩))
      · subst e0
        have hx := r1.length
        have : _ = [] := List.length_eq_zero_iff.mp (show _ = 0 from hx.symm)
        subst this
        exact flat2 l ry q
      · subst e1
        have hx := r2.length
        have : _ = [] := List.length_eq_zero_iff.mp (show _ = 0 from hx.symm)
        subst this
        rw [List.append_nil] at q
        exact flat2 l rx q
    · cases e
  · cases e
def pyI (C : Int → Int → Prop) [∀ i j, Decidable (C i j)] (g : Int → Int → PV) : PV → PV → Option PV
  | .int i, .int j => if C i j then some (g i j) else none
  | _, _ => none
theorem sn_I {C : Int → Int → Prop} [∀ i j, Decidable (C i j)] {g : Int → Int → PV} {g' : Int → Int → V} (h : ∀ (G : Hp) i j, Rep D G (g i j) (g' i j)) : Sn2 D (rI C g') (pyI C g) := by
  intro G H x y z v w Q l rx ry e q
  unfold pyI at e
  split at e
  · split at e
    · rename_i c
      cases e; cases rx; cases ry
      exact ⟨_, _, rfl, rfl, c, flat2 l (h G _ _) q⟩
    · cases e
  · cases e
instance (i j : Int) : Decidable (CMulW i j) := inferInstanceAs (Decidable (_ < _))
instance (i j : Int) : Decidable (CDivW i j) := inferInstanceAs (Decidable (_ ∧ _))
def CPowW (i j : Int) : Prop := 0 ≤ j ∧ (Builtin.Int.intBits i : Int) * j ≤ 2 ^ 27
instance (i j : Int) : Decidable (CPowW i j) := inferInstanceAs (Decidable (_ ∧ _))
theorem op_powW : OpR X (binaryOp .Pow) (rI CPowW fun i j => .int (i ^ j.toNat)) := opI fun _ _ _ _ _ _ _ hc q => PyProof.Rows.pow_int hc.1 hc.2 q
def pySub := pyI (fun _ _ => True) fun i j => .int (i - j)
theorem op_subP : OpR X (binaryOp .Sub) (rI (fun _ _ => True) fun i j => .int (i - j)) := fun pins s σ H x y v u Q I rx ry ⟨i, j, e1, e2, _, q⟩ => op_sub pins s σ H x y v u Q I rx ry ⟨i, j, e1, e2, q⟩
theorem sn_sub : Sn2 D (rI (fun _ _ => True) fun i j => .int (i - j)) pySub := sn_I fun _ _ _ => rfl
def pyMul := pyI CMulW fun i j => .int (i * j)
theorem sn_mul : Sn2 D (rI CMulW fun i j => .int (i * j)) pyMul := sn_I fun _ _ _ => rfl
def pyMod := pyI (fun _ j => 0 < j) fun i j => .int (i % j)
theorem sn_mod : Sn2 D (rI (fun _ j => 0 < j) fun i j => .int (i % j)) pyMod := sn_I fun _ _ _ => rfl
def pyDiv := pyI CDivW fun i j => .int (i / j)
theorem sn_div : Sn2 D (rI CDivW fun i j => .int (i / j)) pyDiv := sn_I fun _ _ _ => rfl
def pyPow := pyI CPowW fun i j => .int (i ^ j.toNat)
theorem sn_pow : Sn2 D (rI CPowW fun i j => .int (i ^ j.toNat)) pyPow := sn_I fun _ _ _ => rfl

/-! ### == != -/
mutual
def PV.toD : PV → Option PyData
  | .non => some .none
  | .bl b => some (.bool b)
  | .int i => some (.int i)
  | .str s => some (.str s)
  | .lst xs => (toDs xs).map .list
  | .tup xs => (toDs xs).map .tuple
  | .dct _ => none
  | .obj _ _ => none
def toDs : List PV → Option (List PyData)
  | [] => some []
  | x :: xs => match x.toD, toDs xs with
    | some d, some ds => some (d :: ds)
    | _, _ => none
end
mutual
theorem dp_of {G : Hp} : ∀ (x : PV) (d : PyData) (v : V), x.toD = some d → Rep D G x v → Dp D.K G v d
  | .non, _, _, e, r => by cases e; cases r; exact .non
  | .bl b, _, _, e, r => by cases e; cases r; exact .bl b
  | .int b, _, _, e, r => by cases e; cases r; exact .int b
  | .str b, _, _, e, r => by cases e; cases r; exact .str b
  | .lst xs, _, _, e, r => by
    obtain ⟨a, vs, rfl, s, rs⟩ := r
    rw [PV.toD] at e
    cases h : toDs xs with
    | none => rw [h] at e; cases e
    | some ds => rw [h] at e; cases e; exact .lst s (dps_of xs ds vs h rs)
  | .tup xs, _, _, e, r => by
    obtain ⟨a, vs, rfl, s, rs⟩ := r
    rw [PV.toD] at e
    cases h : toDs xs with
    | none => rw [h] at e; cases e
    | some ds => rw [h] at e; cases e; exact .tup s (dps_of xs ds vs h rs)
  | .dct _, _, _, e, _ => by cases e
  | .obj _ _, _, _, e, _ => by cases e
theorem dps_of {G : Hp} : ∀ (xs : List PV) (ds : List PyData) (vs : List V), toDs xs = some ds → Reps D G xs vs → DpAll D.K G vs ds
  | [], _, _, e, r => by cases e; rw [show _ = [] from r]; exact .nil
  | x :: xs, _, _, e, r => by
    obtain ⟨v, vs, rfl, r1, r2⟩ := r
    rw [toDs] at e
    cases h1 : x.toD with
    | none => rw [h1] at e; cases e
    | some d =>
      cases h2 : toDs xs with
      | none => rw [h1, h2] at e; cases e
      | some ds =>
        rw [h1, h2] at e; cases e
        exact .cons (dp_of x d v h1 r1) (dps_of xs ds vs h2 r2)
end
mutual
theorem Dp.mono' {K : PySem.W.Frag} {G G' : Hp} (l : LeG G G') : ∀ {d : PyData} {v : V}, Dp K G v d → Dp K G' v d
  | .none, _, h => by cases h; exact .non
  | .bool _, _, h => by cases h; exact .bl _
  | .int _, _, h => by cases h; exact .int _
  | .str _, _, h => by cases h; exact .str _
  | .list ds, _, h => by
    cases h with
    | lst s r => exact .lst (sqL_mono l s) (DpAll.mono' l r)
  | .tuple ds, _, h => by
    cases h with
    | tup s r => exact .tup (sqT_mono l s) (DpAll.mono' l r)
  | .dict _, _, h => by cases h
theorem DpAll.mono' {K : PySem.W.Frag} {G G' : Hp} (l : LeG G G') : ∀ {ds : List PyData} {vs : List V}, DpAll K G vs ds → DpAll K G' vs ds
  | [], _, h => by cases h; exact .nil
  | d :: ds, _, h => by
    cases h with
    | cons h1 h2 => exact .cons (Dp.mono' l h1) (DpAll.mono' l h2)
end
theorem dpH_of {G H : Hp} {x : PV} {d : PyData} {v : V} (l : LeG G H) (e : x.toD = some d) (r : RepH D G H x v) : Dp D.K H v d := by
  cases x with
  | lst xs =>
    obtain ⟨a, vs, rfl, s, rs⟩ := r
    rw [PV.toD] at e
    cases h : toDs xs with
    | none => rw [h] at e; cases e
    | some ds => rw [h] at e; cases e; exact .lst s (DpAll.mono' l (dps_of xs ds vs h rs))
  | dct _ => cases e
  | obj _ _ => cases e
  | _ => exact Dp.mono' l (dp_of _ d v e r)
/-- plain data at most 64 deep -/
def PV.dat (x : PV) : Option PyData := match x.toD with
  | some d => if SeqAt.shaped d then some d else none
  | none => none
theorem PV.dat_of {x : PV} {d : PyData} (h : x.dat = some d) : x.toD = some d ∧ SeqAt.shaped d = true := by
  unfold PV.dat at h
  split at h
  · rename_i d' e
    split at h
    · rename_i s; cases h; exact ⟨e, s⟩
    · cases h
  · cases h
def scalE : PV → PV → Option Bool
  | .str a, .str b => some (decide (a = b))
  | .str _, .non => some false
  | .str _, .int _ => some false
  | .str _, .bl _ => some false
  | .non, .str _ => some false
  | .int _, .str _ => some false
  | .bl _, .str _ => some false
  | _, _ => none
theorem scal_rep {G H : Hp} {x y : PV} {v w : V} {k : Bool} (rx : RepH D G H x v) (ry : RepH D G H y w) (e : scalE x y = some k) : scal v w = true ∧ decide (v = w) = k := by
  unfold scalE at e
  split at e <;> first
    | (cases e; cases rx; cases ry; refine ⟨rfl, ?_⟩; rw [decide_eq_decide]; exact ⟨fun h => by injection h, fun h => by rw [h]⟩)
    | (cases e; cases rx; cases ry; exact ⟨rfl, decide_eq_false fun h => nomatch h⟩)
    | cases e
def eqD (x y : PV) : Option Bool := match x.dat, y.dat with
  | some d, some e => some (PyData.eqv d e)
  | _, _ => none
def eqQ (x y : PV) : Option Bool := match scalE x y with
  | some k => some k
  | none => eqD x y
def pyEq (x y : PV) : Option PV := (eqQ x y).map .bl
def pyNe (x y : PV) : Option PV := (eqQ x y).map fun k => .bl (!k)
def rEqP (K : PySem.W.Frag) : R2 := fun x y H Q => rEq x y H Q ∨ rEqD K x y H Q
def rNeP (K : PySem.W.Frag) : R2 := fun x y H Q => rNe x y H Q ∨ rNeD K x y H Q
theorem op_eqP (hu : X.A.units + 64 < cLine) : OpR X (compareOp .Eq) (rEqP X.K) := op_eq.or (op_eqD hu)
theorem op_neP (hu : X.A.units + 64 < cLine) : OpR X (compareOp .NotEq) (rNeP X.K) := op_ne.or (op_neD hu)
theorem eqQ_rep {G H : Hp} {x y : PV} {v w : V} {k : Bool} (l : LeG G H) (rx : RepH D G H x v) (ry : RepH D G H y w) (e : eqQ x y = some k) :
    (scal v w = true ∧ decide (v = w) = k) ∨ ∃ d d', Dp D.K H v d ∧ Dp D.K H w d' ∧ SeqAt.shaped d = true ∧ SeqAt.shaped d' = true ∧ PyData.eqv d d' = k := by
  unfold eqQ at e
  split at e
  · rename_i k' h
    cases e
    exact .inl (scal_rep rx ry h)
  · unfold eqD at e
    split at e
    · rename_i d d' h1 h2
      cases e
      exact .inr ⟨d, d', dpH_of l (PV.dat_of h1).1 rx, dpH_of l (PV.dat_of h2).1 ry, (PV.dat_of h1).2, (PV.dat_of h2).2, rfl⟩
    · cases e
theorem sn_eq : Sn2 D (rEqP D.K) pyEq := by
  intro G H x y z v w Q l rx ry e q
  unfold pyEq at e
  cases h : eqQ x y with
  | none => rw [h] at e; cases e
  | some k =>
    rw [h] at e
    cases e
    rcases eqQ_rep l rx ry h with ⟨h1, h2⟩ | ⟨d, d', h1, h2, h3, h4, h5⟩
    · exact .inl ⟨h1, by rw [h2]; exact flat2 l (z := .bl _) rfl q⟩
    · exact .inr ⟨d, d', h1, h2, h3, h4, by rw [h5]; exact flat2 l (z := .bl _) rfl q⟩
theorem sn_ne : Sn2 D (rNeP D.K) pyNe := by
  intro G H x y z v w Q l rx ry e q
  unfold pyNe at e
  cases h : eqQ x y with
  | none => rw [h] at e; cases e
  | some k =>
    rw [h] at e
    cases e
    rcases eqQ_rep l rx ry h with ⟨h1, h2⟩ | ⟨d, d', h1, h2, h3, h4, h5⟩
    · exact .inl ⟨h1, by rw [h2]; exact flat2 l (z := .bl _) rfl q⟩
    · exact .inr ⟨d, d', h1, h2, h3, h4, by rw [h5]; exact flat2 l (z := .bl _) rfl q⟩

/-! ### < <= > >= of ints and texts -/
def pyLt : PV → PV → Option PV
  | .int i, .int j => some (.bl (decide (i < j)))
  | .str a, .str b => some (.bl (decide (a.cps.toList < b.cps.toList)))
  | _, _ => none
def pyLe : PV → PV → Option PV
  | .int i, .int j => some (.bl (decide (i ≤ j)))
  | .str a, .str b => some (.bl (!decide (b.cps.toList < a.cps.toList)))
  | _, _ => none
def pyGt : PV → PV → Option PV
  | .int i, .int j => some (.bl (decide (j < i)))
  | .str a, .str b => some (.bl (decide (b.cps.toList < a.cps.toList)))
  | _, _ => none
def pyGe : PV → PV → Option PV
  | .int i, .int j => some (.bl (decide (j ≤ i)))
  | .str a, .str b => some (.bl (!decide (a.cps.toList < b.cps.toList)))
  | _, _ => none
def rOrd (p : Int → Int → Bool) (q : Str → Str → Bool) : R2 := fun x y H Q => rI0 (fun i j => .bl (p i j)) x y H Q ∨ ∃ i j, x = .str i ∧ y = .str j ∧ Q (.bl (q i j)) H
def pyOrd (p : Int → Int → Bool) (q : Str → Str → Bool) : PV → PV → Option PV
  | .int i, .int j => some (.bl (p i j))
  | .str a, .str b => some (.bl (q a b))
  | _, _ => none
theorem sn_ord {p : Int → Int → Bool} {q : Str → Str → Bool} : Sn2 D (rOrd p q) (pyOrd p q) := by
  intro G H x y z v w Q l rx ry e f
  unfold pyOrd at e
  split at e
  · cases e; cases rx; cases ry
    exact .inl ⟨_, _, rfl, rfl, flat2 l (z := .bl _) rfl f⟩
  · cases e; cases rx; cases ry
    exact .inr ⟨_, _, rfl, rfl, flat2 l (z := .bl _) rfl f⟩
  · cases e
theorem pyLt_eq : pyLt = pyOrd (fun i j => decide (i < j)) (fun a b => decide (a.cps.toList < b.cps.toList)) := by
  funext x y; cases x <;> cases y <;> rfl
theorem pyLe_eq : pyLe = pyOrd (fun i j => decide (i ≤ j)) (fun a b => !decide (b.cps.toList < a.cps.toList)) := by
  funext x y; cases x <;> cases y <;> rfl
theorem pyGt_eq : pyGt = pyOrd (fun i j => decide (j < i)) (fun a b => decide (b.cps.toList < a.cps.toList)) := by
  funext x y; cases x <;> cases y <;> rfl
theorem pyGe_eq : pyGe = pyOrd (fun i j => decide (j ≤ i)) (fun a b => !decide (a.cps.toList < b.cps.toList)) := by
  funext x y; cases x <;> cases y <;> rfl
theorem op_ltP : OpR X (compareOp .Lt) (rOrd (fun i j => decide (i < j)) (fun a b => decide (a.cps.toList < b.cps.toList))) := op_lt.or op_lt_str
theorem op_leP : OpR X (compareOp .LtE) (rOrd (fun i j => decide (i ≤ j)) (fun a b => !decide (b.cps.toList < a.cps.toList))) := op_le.or op_le_str
theorem op_gtP : OpR X (compareOp .Gt) (rOrd (fun i j => decide (j < i)) (fun a b => decide (b.cps.toList < a.cps.toList))) := op_gt.or op_gt_str
theorem op_geP : OpR X (compareOp .GtE) (rOrd (fun i j => decide (j ≤ i)) (fun a b => !decide (a.cps.toList < b.cps.toList))) := op_ge.or op_ge_str
theorem sn_lt : Sn2 D (rOrd (fun i j => decide (i < j)) (fun a b => decide (a.cps.toList < b.cps.toList))) pyLt := pyLt_eq ▸ sn_ord
theorem sn_le : Sn2 D (rOrd (fun i j => decide (i ≤ j)) (fun a b => !decide (b.cps.toList < a.cps.toList))) pyLe := pyLe_eq ▸ sn_ord
theorem sn_gt : Sn2 D (rOrd (fun i j => decide (j < i)) (fun a b => decide (b.cps.toList < a.cps.toList))) pyGt := pyGt_eq ▸ sn_ord
theorem sn_ge : Sn2 D (rOrd (fun i j => decide (j ≤ i)) (fun a b => !decide (a.cps.toList < b.cps.toList))) pyGe := pyGe_eq ▸ sn_ord

/-! ### is, is not: the right side None or a flag -/
def isQ : PV → PV → Option Bool
  | .non, .non => some true
  | _, .non => some false
  | .bl a, .bl b => some (a == b)
  | _, .bl _ => some false
  | _, _ => none
def pyIs (x y : PV) : Option PV := (isQ x y).map .bl
def pyIsNot (x y : PV) : Option PV := (isQ x y).map fun b => .bl (!b)
def isV : V → V → Option Bool
  | .non, .non => some true
  | _, .non => some false
  | .bl a, .bl b => some (a == b)
  | _, .bl _ => some false
  | _, _ => none
def rIsP (n : Bool) : R2 := fun x y H Q => ∃ b, isV x y = some b ∧ Q (.bl (if n then !b else b)) H
theorem same_run {x y : V} {v u : Value} {b : Bool} (rx : RelV x v) (ry : RelV y u) (h : isV x y = some b) : plainIs v u = true ∧ (v == u) = b := by
  cases y with
  | non =>
    cases ry
    cases x with
    | non => cases rx; cases h; exact ⟨rfl, rfl⟩
    | bl a => cases rx; cases h; exact ⟨rfl, rfl⟩
    | int a => obtain ⟨t, rfl⟩ := rx; cases h; exact ⟨rfl, rfl⟩
    | str a => obtain ⟨t, rfl⟩ := rx; cases h; exact ⟨rfl, rfl⟩
    | byt a => obtain ⟨t, rfl⟩ := rx; cases h; exact ⟨rfl, rfl⟩
    | flt a => obtain ⟨t, rfl⟩ := rx; cases h; exact ⟨rfl, rfl⟩
    | ref a => cases rx; cases h; exact ⟨rfl, rfl⟩
    | ty a => cases rx; cases h; exact ⟨rfl, rfl⟩
  | bl c =>
    cases ry
    cases x with
    | non => cases rx; cases h; exact ⟨rfl, rfl⟩
    | bl a =>
      cases rx
      have e : (a == c) = b := Option.some.inj h
      refine ⟨rfl, ?_⟩
      rw [← e]
      cases a <;> cases c <;> rfl
    | int a => obtain ⟨t, rfl⟩ := rx; cases h; exact ⟨rfl, rfl⟩
    | str a => obtain ⟨t, rfl⟩ := rx; cases h; exact ⟨rfl, rfl⟩
    | byt a => obtain ⟨t, rfl⟩ := rx; cases h; exact ⟨rfl, rfl⟩
    | flt a => obtain ⟨t, rfl⟩ := rx; cases h; exact ⟨rfl, rfl⟩
    | ref a => cases rx; cases h; exact ⟨rfl, rfl⟩
    | ty a => cases rx; cases h; exact ⟨rfl, rfl⟩
  | _ => cases x <;> cases h
theorem op_isP : OpR X (compareOp .Is) (rIsP false) := by
  intro pins s σ H x y v u Q I rx ry h
  obtain ⟨b, e, q⟩ := h
  obtain ⟨p, rfl⟩ := same_run rx ry e
  exact wpAny_is_plain p ⟨.bl _, H, I, rfl, q⟩
theorem op_isNotP : OpR X (compareOp .IsNot) (rIsP true) := by
  intro pins s σ H x y v u Q I rx ry h
  obtain ⟨b, e, q⟩ := h
  obtain ⟨p, rfl⟩ := same_run rx ry e
  exact wpAny_isNot_plain p ⟨.bl _, H, I, rfl, q⟩
theorem isQ_V {G H : Hp} {x y : PV} {v w : V} {b : Bool} (rx : RepH D G H x v) (ry : RepH D G H y w) (e : isQ x y = some b) : isV v w = some b := by
  cases y with
  | non =>
    cases ry
    cases x with
    | non => cases rx; exact e
    | bl a => cases rx; exact e
    | int a => cases rx; exact e
    | str a => cases rx; exact e
    | lst a => obtain ⟨_, _, rfl, _⟩ := rx; exact e
    | tup a => obtain ⟨_, _, rfl, _⟩ := rx; exact e
    | dct a => obtain ⟨_, _, rfl, _⟩ := rx; exact e
    | obj a b => obtain ⟨_, _, _, _, rfl, _⟩ := rx; exact e
  | bl c =>
    cases ry
    cases x with
    | non => cases rx; exact e
    | bl a => cases rx; exact e
    | int a => cases rx; exact e
    | str a => cases rx; exact e
    | lst a => obtain ⟨_, _, rfl, _⟩ := rx; exact e
    | tup a => obtain ⟨_, _, rfl, _⟩ := rx; exact e
    | dct a => obtain ⟨_, _, rfl, _⟩ := rx; exact e
    | obj a b => obtain ⟨_, _, _, _, rfl, _⟩ := rx; exact e
  | _ => cases x <;> cases e
theorem sn_is : Sn2 D (rIsP false) pyIs := by
  intro G H x y z v w Q l rx ry e q
  unfold pyIs at e
  cases h : isQ x y with
  | none => rw [h] at e; cases e
  | some b => rw [h] at e; cases e; exact ⟨b, isQ_V rx ry h, flat2 l (z := .bl _) rfl q⟩
theorem sn_isNot : Sn2 D (rIsP true) pyIsNot := by
  intro G H x y z v w Q l rx ry e q
  unfold pyIsNot at e
  cases h : isQ x y with
  | none => rw [h] at e; cases e
  | some b => rw [h] at e; cases e; exact ⟨b, isQ_V rx ry h, flat2 l (z := .bl _) rfl q⟩
end
end TR

set_option Elab.async false
set_option linter.all false
set_option maxRecDepth 100000
/-! TRD: tests, subscripts, arguments, calls. -/
namespace TR
open PySem PySem.Spec L2
set_option autoImplicit false
section
variable {D : Wd} {W : WX} {X : Cx} {a b c e : Expr} {pos : Pos} {m m1 m2 m3 : EM PV}

/-! ### truth -/
def pyTruth : PV → Option Bool
  | .non => some false
  | .bl b => some b
  | .int i => some (i != 0)
  | .str s => if s.length ≤ sizeLine then some ((s.length : Int) != 0) else none
  | .lst xs => some (!xs.isEmpty)
  | .tup xs => some (!xs.isEmpty)
  | .dct kvs => some (!kvs.isEmpty)
  | .obj _ _ => none
def rTru (K : PySem.W.Frag) : V → Hp → (Bool → Hp → Prop) → Prop := fun x H Q => (∃ k, TruV K x H k ∧ Q k H) ∨ ∃ a kvs, x = .ref a ∧ Rd H a (.dK kvs) ∧ Q (!kvs.isEmpty) H
theorem tru_all : TruR X (rTru X.K) := by
  intro pins s σ H x v Q I r h
  rcases h with h | ⟨a, kvs, rfl, hd, q⟩
  · exact tru_ok pins s σ H x v Q I r h
  · cases r
    exact d_truth I hd fun s' I' => ⟨H, I', q⟩
theorem isEmpty_reps {D : Wd} {G : Hp} {xs : List PV} {vs : List V} (r : Reps D G xs vs) : vs.isEmpty = xs.isEmpty := by
  have := r.length
  cases xs <;> cases vs <;> simp_all
theorem isEmpty_repd {D : Wd} {G : Hp} {xs : List (Key × PV)} {vs : List (Key × V)} (r : RepD D G xs vs) : vs.isEmpty = xs.isEmpty := by
  have := r.length
  cases xs <;> cases vs <;> simp_all
theorem truth_rep {G H : Hp} {x : PV} {v : V} {k : Bool} {Q : Bool → Hp → Prop} (l : LeG G H) (r : RepH D G H x v) (e : pyTruth x = some k) (q : Q k H) : rTru D.K v H Q := by
  cases x with
  | non => cases r; cases e; exact .inl ⟨false, rfl, q⟩
  | bl b => cases r; cases e; exact .inl ⟨_, rfl, q⟩
  | int i => cases r; cases e; exact .inl ⟨_, rfl, q⟩
  | str s =>
    cases r
    rw [pyTruth] at e
    split at e
    · rename_i h; cases e; exact .inl ⟨_, ⟨h, rfl⟩, q⟩
    · cases e
  | lst xs =>
    obtain ⟨a, vs, rfl, s, rs⟩ := r
    cases e
    exact .inl ⟨_, .inl ⟨vs, s, by rw [isEmpty_reps rs]⟩, q⟩
  | tup xs =>
    obtain ⟨a, vs, rfl, s, rs⟩ := r.tup l
    cases e
    exact .inl ⟨_, .inr (.inl ⟨vs, s, by rw [isEmpty_reps rs]⟩), q⟩
  | dct xs =>
    obtain ⟨a, vs, rfl, s, rs⟩ := r
    cases e
    exact .inr ⟨a, vs, rfl, .inl s, by rw [isEmpty_repd rs]; exact q⟩
  | obj c fs => cases e
/-- the truth of a value -/
def truM (m : EM PV) : EM Bool := fun ρ => (m ρ).bind fun x ρ => lift (pyTruth x) ρ
theorem rb_truth (h : RP D W X a m) (hK : D.K = X.K) (he : ∀ whole, isTrue a X.env whole = (do let v ← whole; standAt a.pos; holding [v] (truthy v)) := by exact fun _ => rfl) : RB D W X a (truM m) :=
  (pt_truthR h tru_all he).imp fun σ H Q ⟨G, ρ, A, k⟩ => ⟨G, ρ, A, (Kg.bind k).mono fun x ρ1 G1 H1 n k1 v r => by
    obtain ⟨z, e, f⟩ := Kg.lift n.abs k1
    rw [← hK]
    exact truth_rep n.abs.le r e (f G1 H1 (Grow.refl n.abs.le))⟩
/-- a flag's own value -/
def asB (m : EM PV) : EM Bool := fun ρ => (m ρ).bind fun x ρ => match x with
  | .bl b => .ok b ρ
  | _ => .stuck
theorem asB_le {t : TE} (h : ∀ σ H Q, tE D W m σ H Q → t σ H Q) (σ : St) (H : Hp) (Q : Bool → Hp → Prop) (k : tB D W (asB m) σ H Q) : tTest t σ H Q := by
  obtain ⟨G, ρ, A, k⟩ := k
  refine h _ _ _ ⟨G, ρ, A, (Kg.bind k).mono fun x ρ1 G1 H1 n k1 v r => ?_⟩
  cases x with
  | bl b => cases r; exact ⟨b, rfl, k1 G1 H1 (Nx.refl n.abs)⟩
  | _ => exact False.elim k1
theorem rb_cmp {op : CmpOp} {r : R2} {g : PV → PV → Option PV} (hm : behindInMarks op b = false) (ho : OpR X (compareOp op) r) (sn : Sn2 D r g) (ha : RE D W X a m1) (hb : RP D W X b m2) : RB D W X (.Compare a [op] [b] pos) (asB (bin g m1 m2)) :=
  (pt_cmpR ho ha hb hm).imp (asB_le (bin_le sn))
theorem rb_cmpN {op : CmpOp} {r : R2} {g : PV → PV → Option PV} {i : Nat} (hm : behindInMarks op b = false) (ho : OpR X (compareOp op) r) (sn : Sn2 D r g) (ha : PE X a (tVar i)) (hb : RP D W X b m2) : RB D W X (.Compare a [op] [b] pos) (asB (binN g i m2)) :=
  (pt_cmpR ho ha hb hm).imp (asB_le (binN_le sn))
/-- a op b op' c -/
def chn (g g' : PV → PV → Option PV) (m1 m2 m3 : EM PV) : EM PV := fun ρ => (m1 ρ).bind fun x ρ => (m2 ρ).bind fun y ρ => (lift (g x y) ρ).bind fun z ρ => match z with
  | .bl true => (m3 ρ).bind fun w ρ => lift (g' y w) ρ
  | .bl false => .ok (.bl false) ρ
  | _ => .stuck
theorem chn_le {r r' : R2} {g g' : PV → PV → Option PV} (sn : Sn2 D r g) (sn' : Sn2 D r' g') (σ : St) (H : Hp) (Q : VK) (h : tE D W (chn g g' m1 m2 m3) σ H Q) : tChain r r' (tE D W m1) (tE D W m2) (tP D W m3) σ H Q := by
  obtain ⟨G, ρ, A, k⟩ := h
  refine ⟨G, ρ, A, (Kg.bind k).mono fun x ρ1 G1 H1 n1 k1 v rv => ⟨G1, ρ1, n1.abs, (Kg.bind k1).mono fun y ρ2 G2 H2 n2 k2 w rw' => ?_⟩⟩
  obtain ⟨z, e, f⟩ := Kg.lift n2.abs (Kg.bind k2)
  refine sn G2 H2 x y z v w _ n2.abs.le ((rv.mono n2.leg).toH n2.abs.le) (rw'.toH n2.abs.le) e fun G' H' v' gr r1 => ?_
  have k3 := f G' H' gr
  cases z with
  | bl t =>
    cases r1
    refine ⟨t, rfl, ?_⟩
    cases t with
    | true =>
      rw [if_pos rfl]
      refine ⟨G', ρ2, (n2.abs.grow gr).abs, (Kg.bind k3).mono fun u ρ4 G4 H4 n4 k4 v4 r4 => ?_⟩
      obtain ⟨z', e', f'⟩ := Kg.lift n4.abs k4
      exact sn' G4 H4 y u z' w v4 Q n4.abs.le (((rw'.mono gr.leg).mono n4.leg).toH n4.abs.le) r4 e' fun G5 H5 v5 g5 r5 => f' G5 H5 g5 v5 r5
    | false =>
      rw [if_neg Bool.false_ne_true]
      exact k3 G' H' (Nx.refl (n2.abs.grow gr).abs) _ rfl
  | _ => exact False.elim k3
theorem re_chain {op op' : CmpOp} {r r' : R2} {g g' : PV → PV → Option PV} (ho : OpR X (compareOp op) r) (ho' : OpR X (compareOp op') r') (sn : Sn2 D r g) (sn' : Sn2 D r' g') (ha : RE D W X a m1) (hb : RE D W X b m2) (hc : RP D W X c m3)
    (hm : lastMarks [op, op'] [b, c] = false := by with_unfolding_all rfl) : RE D W X (.Compare a [op, op'] [b, c] pos) (chn g g' m1 m2 m3) := (pe_chain ho ho' ha hb hc hm).imp (chn_le sn sn')
theorem rb_chain {op op' : CmpOp} {r r' : R2} {g g' : PV → PV → Option PV} (ho : OpR X (compareOp op) r) (ho' : OpR X (compareOp op') r') (sn : Sn2 D r g) (sn' : Sn2 D r' g') (ha : RE D W X a m1) (hb : RE D W X b m2) (hc : RP D W X c m3)
    (hm : lastMarks [op, op'] [b, c] = false := by with_unfolding_all rfl) : RB D W X (.Compare a [op, op'] [b, c] pos) (asB (chn g g' m1 m2 m3)) := (pt_chain ho ho' ha hb hc hm).imp (asB_le (chn_le sn sn'))

/-! ### not, and, or as tests -/
def notM (t : EM Bool) : EM Bool := fun ρ => (t ρ).bind fun k ρ => .ok (!k) ρ
def andM (t u : EM Bool) : EM Bool := fun ρ => (t ρ).bind fun k ρ => match k with
  | true => u ρ
  | false => .ok false ρ
def orM (t u : EM Bool) : EM Bool := fun ρ => (t ρ).bind fun k ρ => match k with
  | true => .ok true ρ
  | false => u ρ
variable {t u : EM Bool} {rest : List Expr}
theorem rb_not (h : RB D W X a t) : RB D W X (.UnaryOp .Not a pos) (notM t) := (pt_not h).imp fun σ H Q ⟨G, ρ, A, k⟩ => ⟨G, ρ, A, (Kg.bind k).mono fun x ρ1 G1 H1 n k1 => k1 G1 H1 (Nx.refl n.abs)⟩
theorem rw_and1 (h : RB D W X a t) : RW D W X (.BoolOp .And [a] pos) t := pw_and1 h
theorem rw_or1 (h : RB D W X a t) : RW D W X (.BoolOp .Or [a] pos) t := pw_or1 h
theorem rw_and (h : RB D W X a t) (k : RW D W X (.BoolOp .And (b :: rest) pos) u) : RW D W X (.BoolOp .And (a :: b :: rest) pos) (andM t u) := (pw_and h k).imp fun σ H Q ⟨G, ρ, A, k⟩ => ⟨G, ρ, A, (Kg.bind k).mono fun x ρ1 G1 H1 n k1 => by
  cases x with
  | true => rw [if_pos rfl]; exact ⟨G1, ρ1, n.abs, k1⟩
  | false => rw [if_neg Bool.false_ne_true]; exact k1 G1 H1 (Nx.refl n.abs)⟩
theorem rw_or (h : RB D W X a t) (k : RW D W X (.BoolOp .Or (b :: rest) pos) u) : RW D W X (.BoolOp .Or (a :: b :: rest) pos) (orM t u) := (pw_or h k).imp fun σ H Q ⟨G, ρ, A, k⟩ => ⟨G, ρ, A, (Kg.bind k).mono fun x ρ1 G1 H1 n k1 => by
  cases x with
  | false => rw [if_neg Bool.false_ne_true]; exact ⟨G1, ρ1, n.abs, k1⟩
  | true => rw [if_pos rfl]; exact k1 G1 H1 (Nx.refl n.abs)⟩
theorem rb_w (h : RW D W X a t) : RB D W X a t := h.pt
/-! ### .. as values -/
def andV (m1 m2 : EM PV) : EM PV := fun ρ => (m1 ρ).bind fun x ρ => (lift (pyTruth x) ρ).bind fun k ρ => match k with
  | true => m2 ρ
  | false => .ok x ρ
def orV (m1 m2 : EM PV) : EM PV := fun ρ => (m1 ρ).bind fun x ρ => (lift (pyTruth x) ρ).bind fun k ρ => match k with
  | true => .ok x ρ
  | false => m2 ρ
def notV (t : EM Bool) : EM PV := fun ρ => (t ρ).bind fun k ρ => .ok (.bl (!k)) ρ
/-- a test's answer as a value (for BoolOp over flags) -/
theorem truV_rep {G H : Hp} {x : PV} {v : V} {k : Bool} (l : LeG G H) (r : Rep D G x v) (e : pyTruth x = some k) (nd : ∀ kvs, x ≠ .dct kvs) : TruV D.K v H k := by
  have h := truth_rep (Q := fun b _ => b = k) l (r.toH l) e rfl
  rcases h with ⟨k', h, rfl⟩ | ⟨a, kvs, rfl, hd, _⟩
  · exact h
  · cases x with
    | non => cases r
    | bl b => cases r
    | int i => cases r
    | str s => cases r
    | lst xs =>
      obtain ⟨a', vs, e', s, rs⟩ := r
      cases e'; cases e
      exact .inl ⟨vs, sqL_mono l s, by rw [isEmpty_reps rs]⟩
    | tup xs =>
      obtain ⟨a', vs, e', s, rs⟩ := r
      cases e'; cases e
      exact .inr (.inl ⟨vs, sqT_mono l s, by rw [isEmpty_reps rs]⟩)
    | dct xs => exact absurd rfl (nd xs)
    | obj c fs => cases e
def noD : PV → Bool
  | .dct _ => false
  | _ => true
def andV' (m1 m2 : EM PV) : EM PV := fun ρ => (m1 ρ).bind fun x ρ => if noD x then (lift (pyTruth x) ρ).bind fun k ρ => (match k with
  | true => m2 ρ
  | false => .ok x ρ) else .stuck
def orV' (m1 m2 : EM PV) : EM PV := fun ρ => (m1 ρ).bind fun x ρ => if noD x then (lift (pyTruth x) ρ).bind fun k ρ => (match k with
  | true => .ok x ρ
  | false => m2 ρ) else .stuck
theorem noD_of {x : PV} (h : noD x = true) : ∀ kvs, x ≠ .dct kvs := by
  intro kvs e; subst e; cases h
theorem re_and (h : RE D W X a m1) (k : RE D W X (.BoolOp .And (b :: rest) pos) m2) (hK : D.K = X.K) : RE D W X (.BoolOp .And (a :: b :: rest) pos) (andV' m1 m2) := (pe_andT h k).imp fun σ H Q ⟨G, ρ, A, k⟩ => ⟨G, ρ, A, (Kg.bind k).mono fun x ρ1 G1 H1 n k1 v r => by
  split at k1
  · rename_i nd
    obtain ⟨z, e, f⟩ := Kg.lift n.abs (Kg.bind k1)
    have k2 := f G1 H1 (Grow.refl n.abs.le)
    refine ⟨z, hK ▸ truV_rep n.abs.le r e (noD_of nd), ?_⟩
    cases z with
    | true => rw [if_pos rfl]; exact ⟨G1, ρ1, n.abs, k2⟩
    | false => rw [if_neg Bool.false_ne_true]; exact k2 G1 H1 (Nx.refl n.abs) v r
  · exact False.elim k1⟩
theorem re_or (h : RE D W X a m1) (k : RE D W X (.BoolOp .Or (b :: rest) pos) m2) (hK : D.K = X.K) : RE D W X (.BoolOp .Or (a :: b :: rest) pos) (orV' m1 m2) := (pe_orT h k).imp fun σ H Q ⟨G, ρ, A, k⟩ => ⟨G, ρ, A, (Kg.bind k).mono fun x ρ1 G1 H1 n k1 v r => by
  split at k1
  · rename_i nd
    obtain ⟨z, e, f⟩ := Kg.lift n.abs (Kg.bind k1)
    have k2 := f G1 H1 (Grow.refl n.abs.le)
    refine ⟨z, hK ▸ truV_rep n.abs.le r e (noD_of nd), ?_⟩
    cases z with
    | false => rw [if_neg Bool.false_ne_true]; exact ⟨G1, ρ1, n.abs, k2⟩
    | true => rw [if_pos rfl]; exact k2 G1 H1 (Nx.refl n.abs) v r
  · exact False.elim k1⟩
theorem re_one {op : BoolOp} (h : RE D W X a m) : RE D W X (.BoolOp op [a] pos) m := pe_one h
end
end TR

set_option Elab.async false
set_option linter.all false
set_option maxRecDepth 100000
/-! TRE: not, -, conditional, in, subscripts, slices. -/
namespace TR
open PySem PySem.Spec L2
set_option autoImplicit false
section
variable {D : Wd} {W : WX} {X : Cx} {a b c e : Expr} {pos p2 : Pos} {m m1 m2 m3 : EM PV} {t : EM Bool}

/-! ### one operand -/
def pyNot (x : PV) : Option PV := if noD x then (pyTruth x).map fun k => .bl (!k) else none
def pyNeg : PV → Option PV
  | .int i => some (.int (-i))
  | _ => none
def un (g : PV → Option PV) (m : EM PV) : EM PV := fun ρ => (m ρ).bind fun x ρ => lift (g x) ρ
theorem re_notV (h : RE D W X a m) (hK : D.K = X.K) : RE D W X (.UnaryOp .Not a pos) (un pyNot m) := (pe_notT h).imp fun σ H Q ⟨G, ρ, A, k⟩ => ⟨G, ρ, A, (Kg.bind k).mono fun x ρ1 G1 H1 n k1 v r => by
  obtain ⟨z, e, f⟩ := Kg.lift n.abs k1
  unfold pyNot at e
  split at e
  · rename_i nd
    cases h : pyTruth x with
    | none => rw [h] at e; cases e
    | some q =>
      rw [h] at e; cases e
      exact ⟨q, hK ▸ truV_rep n.abs.le r h (noD_of nd), f G1 H1 (Grow.refl n.abs.le) _ rfl⟩
  · cases e⟩
theorem re_neg (h : RE D W X a m) : RE D W X (.UnaryOp .USub a pos) (un pyNeg m) := (pe_un un_neg h).imp fun σ H Q ⟨G, ρ, A, k⟩ => ⟨G, ρ, A, (Kg.bind k).mono fun x ρ1 G1 H1 n k1 v r => by
  obtain ⟨z, e, f⟩ := Kg.lift n.abs k1
  unfold pyNeg at e
  split at e
  · cases e; cases r
    exact ⟨_, rfl, f G1 H1 (Grow.refl n.abs.le) _ rfl⟩
  · cases e⟩
def iteM {α : Type} (t : EM Bool) (m1 m2 : EM α) : EM α := fun ρ => (t ρ).bind fun k ρ => match k with
  | true => m1 ρ
  | false => m2 ρ
theorem re_if (hc : RB D W X c t) (ha : RE D W X a m1) (hb : RE D W X b m2) : RE D W X (.IfExp c a b pos) (iteM t m1 m2) := (pe_ifExp hc ha hb).imp fun σ H Q ⟨G, ρ, A, k⟩ => ⟨G, ρ, A, (Kg.bind k).mono fun x ρ1 G1 H1 n k1 => by
  cases x with
  | true => rw [if_pos rfl]; exact ⟨G1, ρ1, n.abs, k1⟩
  | false => rw [if_neg Bool.false_ne_true]; exact ⟨G1, ρ1, n.abs, k1⟩⟩

/-! ### keys of dicts -/
def keyOf : PV → Option Key
  | .int i => some (.inl i)
  | .str s => some (.inr s)
  | _ => none
def dget (kvs : List (Key × PV)) (k : Key) : Option PV := (kvs.find? fun kv => decide (kv.1 = k)).map (·.2)
theorem dget_nil (k : Key) : dget [] k = none := rfl
theorem dget_cons (p : Key × PV) (r : List (Key × PV)) (k : Key) : dget (p :: r) k = if p.1 = k then some p.2 else dget r k := by
  unfold dget
  rw [List.find?_cons]
  by_cases h : p.1 = k <;> simp [h]
theorem repd_val {G : Hp} {k : Key} : ∀ {kvs : List (Key × PV)} {ws : List (Key × V)}, RepD D G kvs ws → (∀ x, dget kvs k = some x → ∃ v, valV ws k = some v ∧ Rep D G x v) ∧ (dget kvs k = none → valV ws k = none)
  | [], _, r => by
    rw [show _ = [] from r]
    exact ⟨fun x e => (by cases e), fun _ => rfl⟩
  | (j, y) :: kvs, _, r => by
    obtain ⟨v, ws, rfl, r1, r2⟩ := r
    have ih := repd_val (k := k) r2
    rw [dget_cons]
    by_cases h : j = k
    · rw [if_pos h, valV_pos (p := (j, v)) h]
      exact ⟨fun x e => (by cases e; exact ⟨v, rfl, r1⟩), fun e => (by cases e)⟩
    · rw [if_neg h, valV_neg (p := (j, v)) h]
      exact ih
theorem key_rep {G H : Hp} {x : PV} {v : V} {k : Key} (e : keyOf x = some k) (r : RepH D G H x v) : v = kV k := by
  unfold keyOf at e
  split at e
  · cases e; cases r; rfl
  · cases e; cases r; rfl
  · cases e

/-! ### in, not in -/
def inQ : PV → PV → Option Bool
  | x, .lst ys => match x.dat, (PV.lst ys).dat with
    | some d, some (.list ds) => some (ds.any fun z => PyData.eqv z d)
    | _, _ => none
  | x, .tup ys => match x.dat, (PV.tup ys).dat with
    | some d, some (.tuple ds) => some (ds.any fun z => PyData.eqv z d)
    | _, _ => none
  | .str x, .str y => match x.cps.toList with
    | [c] => some (decide (c ∈ y.cps.toList))
    | _ => none
  | x, .dct kvs => match keyOf x with
    | some k => some (dget kvs k).isSome
    | none => none
  | _, _ => none
def pyIn (x y : PV) : Option PV := (inQ x y).map .bl
def pyNotIn (x y : PV) : Option PV := (inQ x y).map fun b => .bl (!b)
def rInT (K : PySem.W.Frag) : R2 := fun x y H Q => ∃ d ds, Dp K H x d ∧ Dp K H y (.tuple ds) ∧ SeqAt.shaped d = true ∧ SeqAt.shaped (.tuple ds) = true ∧ Q (.bl (ds.any fun z => PyData.eqv z d)) H
def rNotInT (K : PySem.W.Frag) : R2 := fun x y H Q => ∃ d ds, Dp K H x d ∧ Dp K H y (.tuple ds) ∧ SeqAt.shaped d = true ∧ SeqAt.shaped (.tuple ds) = true ∧ Q (.bl (!ds.any fun z => PyData.eqv z d)) H
theorem room_in_shaped' {A : Around} {d : PyData} {ds : List PyData} (h : SeqAt.shaped d = true) (hu : A.units + 65 < cLine) : A.units + 1 + min (PyData.depthAll ds) d.depth < cLine := by
  have h1 := SeqAt.depth_of_shaped h
  have h2 : min (PyData.depthAll ds) d.depth ≤ d.depth := Nat.min_le_right _ _
  omega
theorem lay_tuple {ds : List PyData} (h : SeqAt.shaped (.tuple ds) = true) : PyData.canLayAll0 ds = true := SeqAt.canLay_of_shaped h
theorem op_inT (hu : X.A.units + 65 < cLine) : OpR X (compareOp .In) (rInT X.K) := by
  intro pins s σ H x y v u Q I rx ry h
  obtain ⟨d, ds, hd, he, sd, se, q⟩ := h
  obtain ⟨as, r1⟩ := Dp.reads I d x v hd rx
  obtain ⟨bs, r2⟩ := Dp.reads I (.tuple ds) y u he ry
  exact SeqAt.in_tuple_reads r2 r1 (lay_tuple se) (SeqAt.canLay_of_shaped sd) (room_in_shaped' sd hu) ⟨.bl _, H, I, rfl, q⟩
theorem op_notInT (hu : X.A.units + 65 < cLine) : OpR X (compareOp .NotIn) (rNotInT X.K) := by
  intro pins s σ H x y v u Q I rx ry h
  obtain ⟨d, ds, hd, he, sd, se, q⟩ := h
  obtain ⟨as, r1⟩ := Dp.reads I d x v hd rx
  obtain ⟨bs, r2⟩ := Dp.reads I (.tuple ds) y u he ry
  exact SeqAt.notIn_tuple_reads r2 r1 (lay_tuple se) (SeqAt.canLay_of_shaped sd) (room_in_shaped' sd hu) ⟨.bl _, H, I, rfl, q⟩
def rInDi (n : Bool) : R2 := fun x y H Q => ∃ a o, y = .ref a ∧ DGet H a x o ∧ Q (.bl (if n then !o.isSome else o.isSome)) H
theorem op_inDi (hu : X.A.units + 1 < cLine) : OpR X (compareOp .In) (rInDi false) := by
  intro pins s σ H x y v u Q I rx ry h
  obtain ⟨a, o, rfl, g, q⟩ := h
  cases ry
  exact d_in hu I g rx fun s3 I3 => ⟨.bl o.isSome, H, I3, rfl, q⟩
theorem op_notInDi (hu : X.A.units + 1 < cLine) : OpR X (compareOp .NotIn) (rInDi true) := by
  intro pins s σ H x y v u Q I rx ry h
  obtain ⟨a, o, rfl, g, q⟩ := h
  cases ry
  exact d_notIn hu I g rx fun s3 I3 => ⟨.bl (!o.isSome), H, I3, rfl, q⟩
def rInP (K : PySem.W.Frag) : R2 := fun x y H Q => rInD K x y H Q ∨ rInT K x y H Q ∨ (∃ (c : Nat) (z : Str), x = .str ⟨#[c]⟩ ∧ y = .str z ∧ Q (.bl (decide (c ∈ z.cps.toList))) H) ∨ rInDi false x y H Q
def rNotInP (K : PySem.W.Frag) : R2 := fun x y H Q => rNotInD K x y H Q ∨ rNotInT K x y H Q ∨ (∃ (c : Nat) (z : Str), x = .str ⟨#[c]⟩ ∧ y = .str z ∧ Q (.bl (!decide (c ∈ z.cps.toList))) H) ∨ rInDi true x y H Q
theorem op_inP (hu : X.A.units + 65 < cLine) : OpR X (compareOp .In) (rInP X.K) := (op_inD hu).or ((op_inT hu).or (op_in_sign.or (op_inDi (by omega))))
theorem op_notInP (hu : X.A.units + 65 < cLine) : OpR X (compareOp .NotIn) (rNotInP X.K) := (op_notInD hu).or ((op_notInT hu).or (op_notIn_sign.or (op_notInDi (by omega))))
theorem one_sign {x : Str} {c : Nat} (h : x.cps.toList = [c]) : x = ⟨#[c]⟩ := by
  obtain ⟨⟨l⟩⟩ := x
  have : l = [c] := h
  subst this
  rfl
theorem inQ_rep {G H : Hp} {x y : PV} {v w : V} {b : Bool} (l : LeG G H) (rx : RepH D G H x v) (ry : RepH D G H y w) (e : inQ x y = some b) :
    (∃ d ds, Dp D.K H v d ∧ Dp D.K H w (.list ds) ∧ SeqAt.shaped d = true ∧ SeqAt.shaped (.list ds) = true ∧ b = ds.any fun z => PyData.eqv z d) ∨
    (∃ d ds, Dp D.K H v d ∧ Dp D.K H w (.tuple ds) ∧ SeqAt.shaped d = true ∧ SeqAt.shaped (.tuple ds) = true ∧ b = ds.any fun z => PyData.eqv z d) ∨
    (∃ (c : Nat) (z : Str), v = .str ⟨#[c]⟩ ∧ w = .str z ∧ b = decide (c ∈ z.cps.toList)) ∨
    ∃ a o, w = .ref a ∧ DGet H a v o ∧ b = o.isSome := by
  unfold inQ at e
  split at e
  · split at e
    · rename_i d ds h1 h2
      cases e
      exact .inl ⟨d, ds, dpH_of l (PV.dat_of h1).1 rx, dpH_of l (PV.dat_of h2).1 ry, (PV.dat_of h1).2, (PV.dat_of h2).2, rfl⟩
    · cases e
  · split at e
    · rename_i d ds h1 h2
      cases e
      exact .inr (.inl ⟨d, ds, dpH_of l (PV.dat_of h1).1 rx, dpH_of l (PV.dat_of h2).1 ry, (PV.dat_of h1).2, (PV.dat_of h2).2, rfl⟩)
    · cases e
  · split at e
    · rename_i c h
      cases e; cases rx; cases ry
      exact .inr (.inr (.inl ⟨c, _, by rw [one_sign h], rfl, rfl⟩))
    · cases e
  · split at e
    · rename_i k h
      cases e
      obtain ⟨a, ws, rfl, hd, rs⟩ := ry
      have hv := key_rep h rx
      subst hv
      obtain ⟨h1, h2⟩ := repd_val (k := k) rs
      refine .inr (.inr (.inr ⟨a, valV ws k, rfl, .inl ⟨ws, k, .inl hd, rfl, rfl⟩, ?_⟩))
      cases q : dget _ k with
      | none => rw [h2 q]; rfl
      | some z => obtain ⟨u, hu, _⟩ := h1 z q; rw [hu]; rfl
    · cases e
  · cases e
theorem sn_in : Sn2 D (rInP D.K) pyIn := by
  intro G H x y z v w Q l rx ry e q
  unfold pyIn at e
  cases h : inQ x y with
  | none => rw [h] at e; cases e
  | some b =>
    rw [h] at e; cases e
    have q' := flat2 (D := D) (z := .bl b) (v := .bl b) l rfl q
    rcases inQ_rep l rx ry h with ⟨d, ds, h1, h2, h3, h4, rfl⟩ | ⟨d, ds, h1, h2, h3, h4, rfl⟩ | ⟨c, s, h1, h2, rfl⟩ | ⟨a, o, h1, h2, rfl⟩
    · exact .inl ⟨d, ds, h1, h2, h3, h4, q'⟩
    · exact .inr (.inl ⟨d, ds, h1, h2, h3, h4, q'⟩)
    · exact .inr (.inr (.inl ⟨c, s, h1, h2, q'⟩))
    · exact .inr (.inr (.inr ⟨a, o, h1, h2, q'⟩))
theorem sn_notIn : Sn2 D (rNotInP D.K) pyNotIn := by
  intro G H x y z v w Q l rx ry e q
  unfold pyNotIn at e
  cases h : inQ x y with
  | none => rw [h] at e; cases e
  | some b =>
    rw [h] at e; cases e
    have q' := flat2 (D := D) (z := .bl (!b)) (v := .bl (!b)) l rfl q
    rcases inQ_rep l rx ry h with ⟨d, ds, h1, h2, h3, h4, rfl⟩ | ⟨d, ds, h1, h2, h3, h4, rfl⟩ | ⟨c, s, h1, h2, rfl⟩ | ⟨a, o, h1, h2, rfl⟩
    · exact .inl ⟨d, ds, h1, h2, h3, h4, q'⟩
    · exact .inr (.inl ⟨d, ds, h1, h2, h3, h4, q'⟩)
    · exact .inr (.inr (.inl ⟨c, s, h1, h2, q'⟩))
    · exact .inr (.inr (.inr ⟨a, o, h1, h2, q'⟩))

/-! ### a[b] -/
def pyIx : PV → PV → Option PV
  | .lst xs, .int i => atI xs i
  | .tup xs, .int i => atI xs i
  | .str s, .int i => if s.length ≤ sizeLine then (atI s.cps.toList i).map fun c => .str ⟨#[c]⟩ else none
  | .dct kvs, k => match keyOf k with
    | some k => dget kvs k
    | none => none
  | _, _ => none
def rIxD : R2 := fun x y H Q => ∃ a v, x = .ref a ∧ DGet H a y (some v) ∧ Q v H
theorem ix_dict (hu : X.A.units + 1 < cLine) : IxR X rIxD := by
  intro value slice pins s σ H x y v u Q I rx ry h hs
  obtain ⟨a, w, rfl, g, q⟩ := h
  cases rx
  exact PyProof.Rows.tail_any (dict_typeIs I g) PySem.F.slot_dict_getitem.lookup (d_getItem hu I g ry fun w' s3 I3 rw' => ⟨w, H, I3, rw', q⟩) hs
def rIxP (K : PySem.W.Frag) : R2 := fun x y H Q => rIx K x y H Q ∨ rIxD x y H Q
theorem ix_all (hu : X.A.units + 1 < cLine) : IxR X (rIxP X.K) := ix_seq.or (ix_dict hu)
theorem reps_atI {G : Hp} {xs : List PV} {vs : List V} {i : Int} {x : PV} (r : Reps D G xs vs) (e : atI xs i = some x) : ∃ v, atI vs i = some v ∧ Rep D G x v := by
  unfold atI at e ⊢
  rw [r.length]
  cases h : ixN xs.length i with
  | none => rw [h] at e; cases e
  | some j =>
    rw [h] at e
    obtain ⟨v, h1, h2⟩ := r.get e
    exact ⟨v, h1, h2⟩
theorem sn_ix : Sn2 D (rIxP D.K) pyIx := by
  intro G H x y z v w Q l rx ry e q
  unfold pyIx at e
  split at e
  · cases ry
    obtain ⟨a, vs, rfl, s, rs⟩ := rx
    obtain ⟨u, h1, h2⟩ := reps_atI rs e
    exact .inl (.inl ⟨a, vs, _, u, rfl, rfl, s, h1, flat2 l h2 q⟩)
  · cases ry
    obtain ⟨a, vs, rfl, s, rs⟩ := rx.tup l
    obtain ⟨u, h1, h2⟩ := reps_atI rs e
    exact .inl (.inr (.inl ⟨a, vs, _, u, rfl, rfl, s, h1, flat2 l h2 q⟩))
  · cases rx; cases ry
    split at e
    · rename_i hz
      cases h : atI _ _ with
      | none => rw [h] at e; cases e
      | some c => rw [h] at e; cases e; exact .inl (.inr (.inr ⟨_, _, c, rfl, rfl, hz, h, flat2 l (z := .str _) rfl q⟩))
    · cases e
  · split at e
    · rename_i k h
      obtain ⟨a, ws, rfl, hd, rs⟩ := rx
      have hv := key_rep h ry
      subst hv
      obtain ⟨u, h1, h2⟩ := (repd_val (k := k) rs).1 z e
      exact .inr ⟨a, u, rfl, .inl ⟨ws, k, .inl hd, rfl, h1.symm⟩, flat2 l h2 q⟩
    · cases e
  · cases e
theorem re_ix (hu : X.A.units + 1 < cLine) (hK : D.K = X.K) (ha : RE D W X a m1) (hb : RP D W X b m2) (hs : PlainIx b := by exact fun _ _ => rfl) : RE D W X (.Subscript a b pos) (bin pyIx m1 m2) :=
  (pe_ix (ix_all hu) ha hb hs).imp (bin_le (hK ▸ sn_ix))
theorem re_ixN {i : Nat} (hu : X.A.units + 1 < cLine) (hK : D.K = X.K) (ha : PE X a (tVar i)) (hb : RP D W X b m2) (hs : PlainIx b := by exact fun _ _ => rfl) : RE D W X (.Subscript a b pos) (binN pyIx i m2) :=
  (pe_ix (ix_all hu) ha hb hs).imp (binN_le (hK ▸ sn_ix))

/-! ### a[lo:hi] -/
def cutP {α : Type} (xs : List α) (lo hi : Option Int) : List α := (xs.drop (HT.sIx xs.length 0 lo)).take (HT.sIx xs.length xs.length hi - HT.sIx xs.length 0 lo)
def pySl (x : PV) (lo hi : Option Int) : Option PV := match x with
  | .lst xs => some (.lst (cutP xs lo hi))
  | .tup xs => some (.tup (cutP xs lo hi))
  | .str s => if s.length ≤ sizeLine then some (.str (cutS s lo hi)) else none
  | _ => none
theorem reps_cut {G : Hp} {xs : List PV} {vs : List V} (r : Reps D G xs vs) (lo hi : Option Int) : Reps D G (cutP xs lo hi) (cutV vs lo hi) := by
  unfold cutP cutV
  rw [r.length]
  exact (r.drop _).take _
def rSlP (K : PySem.W.Frag) : V → Option Int → Option Int → Hp → VK → Prop := fun x lo hi H Q => rSlL K x lo hi H Q ∨ rSlA K x lo hi H Q ∨ rSlS x lo hi H Q
theorem sl_all : SlR X (rSlP X.K) := sl_list.or (sl_tupA.or sl_str)
theorem cut_whole {xs : List PV} {lo hi : Option Int} (h : HT.sIx xs.length 0 lo = 0 ∧ HT.sIx xs.length xs.length hi = xs.length) : cutP xs lo hi = xs := by
  unfold cutP
  rw [h.1, h.2]
  simp
theorem sn_sl {G H : Hp} {x z : PV} {v : V} {lo hi : Option Int} {Q : VK} (l : LeG G H) (rx : RepH D G H x v) (e : pySl x lo hi = some z) (q : ∀ G' H' v', Grow G H G' H' → Rep D G' z v' → Q v' H') : rSlP D.K v lo hi H Q := by
  unfold pySl at e
  split at e
  · cases e
    obtain ⟨a, vs, rfl, s, rs⟩ := rx
    exact .inl ⟨a, vs, rfl, s, new2 (D := D) (z := .lst _) l (fun p lg => ⟨p, cutV vs lo hi, rfl, .inl (.inl upd_same), (reps_cut rs lo hi).mono lg⟩) q⟩
  · cases e
    obtain ⟨a, vs, rfl, s, rs⟩ := rx.tup l
    refine .inr (.inl ⟨a, vs, rfl, s, fun h => ?_, fun _ => new2 (D := D) (z := .tup _) l (fun p lg => ⟨p, cutV vs lo hi, rfl, .inl (.inl upd_same), (reps_cut rs lo hi).mono lg⟩) q⟩)
    rw [rs.length] at h
    rw [cut_whole h] at q
    exact flat2 l rx q
  · split at e
    · rename_i hz
      cases e; cases rx
      exact .inr (.inr ⟨_, rfl, hz, flat2 l (z := .str _) rfl q⟩)
    · cases e
  · cases e
/-- a part of a slice -/
def tO (D : Wd) (W : WX) (m : EM (Option Int)) : TO := fun σ H Q => ∃ G ρ, Abs D G H σ ρ ∧ Kg D W (m ρ) G H σ ρ fun x _ _ H' => Q x H'
def RO (D : Wd) (W : WX) (X : Cx) (e : Option Expr) (m : EM (Option Int)) : Prop := PO X e (tO D W m)
def noP : EM (Option Int) := fun ρ => .ok none ρ
def someP (m : EM PV) : EM (Option Int) := fun ρ => (m ρ).bind fun x ρ => match x with
  | .int i => .ok (some i) ρ
  | _ => .stuck
theorem ro_none : RO D W X none noP := ⟨fun pins s σ H Q I ⟨G, ρ, A, k⟩ => po_none.run pins s σ H Q I (k G H (Nx.refl A))⟩
theorem ro_some (h : RE D W X e m) : RO D W X (some e) (someP m) := ⟨fun pins s σ H Q I ⟨G, ρ, A, k⟩ => (po_some h).run pins s σ H Q I ⟨G, ρ, A, (Kg.bind k).mono fun x ρ1 G1 H1 n k1 v r => by
  cases x with
  | int i => cases r; exact ⟨i, rfl, k1 G1 H1 (Nx.refl n.abs)⟩
  | _ => exact False.elim k1⟩⟩
def slM (m1 : EM PV) (lo hi : EM (Option Int)) : EM PV := fun ρ => (m1 ρ).bind fun x ρ => (lo ρ).bind fun l ρ => (hi ρ).bind fun h ρ => lift (pySl x l h) ρ
def slN (i : Nat) (lo hi : EM (Option Int)) : EM PV := fun ρ => (peek i ρ).bind fun _ ρ => (lo ρ).bind fun l ρ => (hi ρ).bind fun h ρ => (peek i ρ).bind fun x ρ => lift (pySl x l h) ρ
theorem re_sl {lo hi : Option Expr} {l h : EM (Option Int)} (hK : D.K = X.K) (ha : RE D W X a m1) (hl : RO D W X lo l) (hh : RO D W X hi h) : RE D W X (.Subscript a (.Slice lo hi none p2) pos) (slM m1 l h) :=
  (pe_slice sl_all ha hl hh).imp fun σ H Q ⟨G, ρ, A, k⟩ => ⟨G, ρ, A, (Kg.bind k).mono fun x ρ1 G1 H1 n1 k1 v rv => ⟨G1, ρ1, n1.abs, (Kg.bind k1).mono fun l ρ2 G2 H2 n2 k2 => ⟨G2, ρ2, n2.abs, (Kg.bind k2).mono fun h ρ3 G3 H3 n3 k3 => by
    obtain ⟨z, e, f⟩ := Kg.lift n3.abs k3
    rw [← hK]
    exact sn_sl n3.abs.le (((rv.mono n2.leg).mono n3.leg).toH n3.abs.le) e fun G' H' v' g' r' => f G' H' g' v' r'⟩⟩⟩
theorem re_slN {i : Nat} {lo hi : Option Expr} {l h : EM (Option Int)} (hK : D.K = X.K) (ha : PE X a (tVar i)) (hl : RO D W X lo l) (hh : RO D W X hi h) : RE D W X (.Subscript a (.Slice lo hi none p2) pos) (slN i l h) :=
  (pe_slice sl_all ha hl hh).imp fun σ H Q ⟨G, ρ, A, k⟩ => by
    obtain ⟨x0, v, ev, r0, k0⟩ := peek_ok A (Kg.bind k)
    exact ⟨v, ev, G, ρ, A, (Kg.bind k0).mono fun l ρ2 G2 H2 n2 k2 => ⟨G2, ρ2, n2.abs, (Kg.bind k2).mono fun h ρ3 G3 H3 n3 k3 => by
      obtain ⟨x, v', ev', rv, k4⟩ := peek_ok n3.abs (Kg.bind k3)
      rw [ev] at ev'; cases ev'
      obtain ⟨z, e, f⟩ := Kg.lift n3.abs k4
      rw [← hK]
      exact sn_sl n3.abs.le rv e fun G' H' v' g' r' => f G' H' g' v' r'⟩⟩
end
end TR

set_option Elab.async false
set_option linter.all false
set_option maxRecDepth 100000
/-! TRF: arguments, calls of built-ins, defs and their calls. -/
namespace TR
open PySem PySem.Spec L2
set_option autoImplicit false

/-- an argument: a value, or what stands in a slot -/
inductive AV where
  | v (x : PV) | s (i : Nat)
def AVs (D : Wd) (G : Hp) (σ : St) : List AV → List V → Prop
  | [], vs => vs = []
  | .v x :: r, vs => ∃ v ws, vs = v :: ws ∧ Rep D G x v ∧ AVs D G σ r ws
  | .s i :: r, vs => ∃ v ws, vs = v :: ws ∧ σ[i]? = some (some v) ∧ AVs D G σ r ws
def RepHs (D : Wd) (G H : Hp) : List PV → List V → Prop
  | [], vs => vs = []
  | x :: r, vs => ∃ v ws, vs = v :: ws ∧ RepH D G H x v ∧ RepHs D G H r ws
theorem AVs.mono {D : Wd} {G G' : Hp} {σ : St} (l : LeG G G') : ∀ {as : List AV} {vs : List V}, AVs D G σ as vs → AVs D G' σ as vs
  | [], _, h => h
  | .v x :: r, _, h => by obtain ⟨v, ws, e, h1, h2⟩ := h; exact ⟨v, ws, e, h1.mono l, AVs.mono l h2⟩
  | .s i :: r, _, h => by obtain ⟨v, ws, e, h1, h2⟩ := h; exact ⟨v, ws, e, h1, AVs.mono l h2⟩
def derefs : List AV → Ev → Option (List PV)
  | [], _ => some []
  | .v x :: r, ρ => (derefs r ρ).map (x :: ·)
  | .s i :: r, ρ => match ρ[i]? with
    | some s => match s.peek, derefs r ρ with
      | some x, some xs => some (x :: xs)
      | _, _ => none
    | none => none
theorem derefs_rep {D : Wd} {G H : Hp} {σ : St} {ρ : Ev} (A : Abs D G H σ ρ) : ∀ {as : List AV} {vs : List V} {xs : List PV}, AVs D G σ as vs → derefs as ρ = some xs → RepHs D G H xs vs
  | [], _, _, h, e => by cases e; exact h
  | .v x :: r, _, _, h, e => by
    obtain ⟨v, ws, rfl, h1, h2⟩ := h
    rw [derefs] at e
    cases q : derefs r ρ with
    | none => rw [q] at e; cases e
    | some xs => rw [q] at e; cases e; exact ⟨v, ws, rfl, h1.toH A.le, derefs_rep A h2 q⟩
  | .s i :: r, _, _, h, e => by
    obtain ⟨v, ws, rfl, h1, h2⟩ := h
    rw [derefs] at e
    cases p : ρ[i]? with
    | none => rw [p] at e; cases e
    | some s =>
      rw [p] at e
      cases p2 : s.peek with
      | none => simp only [p2] at e; cases e
      | some x =>
        cases q : derefs r ρ with
        | none => simp only [p2, q] at e; cases e
        | some xs =>
          simp only [p2, q] at e; cases e
          obtain ⟨v', e', r'⟩ := peek_rep A p p2
          rw [h1] at e'; cases e'
          exact ⟨v, ws, rfl, r', derefs_rep A h2 q⟩

section
variable {D : Wd} {W : WX} {X : Cx} {a b c e : Expr} {es : List Expr} {pos p2 p : Pos} {m m1 m2 : EM PV} {ms : EM (List AV)}
def tA (D : Wd) (W : WX) (m : EM (List AV)) : TA := fun σ H Q => ∃ G ρ, Abs D G H σ ρ ∧ Kg D W (m ρ) G H σ ρ fun as ρ' G' H' => ∀ vs, AVs D G' σ as vs → Q vs H'
abbrev RA (D : Wd) (W : WX) (X : Cx) (es : List Expr) (m : EM (List AV)) : Prop := PA X es (tA D W m)
def argNil : EM (List AV) := fun ρ => .ok [] ρ
def argV (m : EM PV) (ms : EM (List AV)) : EM (List AV) := fun ρ => (m ρ).bind fun x ρ => (ms ρ).bind fun as ρ => .ok (.v x :: as) ρ
def argN (i : Nat) (ms : EM (List AV)) : EM (List AV) := fun ρ => (peek i ρ).bind fun _ ρ => (ms ρ).bind fun as ρ => .ok (.s i :: as) ρ
theorem ra_nil : RA D W X [] argNil := pa_nil.imp fun σ H Q ⟨G, ρ, A, k⟩ => k G H (Nx.refl A) [] rfl
theorem ra_v (h : RE D W X e m) (r : RA D W X es ms) (hs : starEach (e :: es) X.env = (false, eval e X.env) :: starEach es X.env := by rfl) : RA D W X (e :: es) (argV m ms) :=
  (pa_cons h r hs).imp fun σ H Q ⟨G, ρ, A, k⟩ => ⟨G, ρ, A, (Kg.bind k).mono fun x ρ1 G1 H1 n1 k1 v rv => ⟨G1, ρ1, n1.abs, (Kg.bind k1).mono fun as ρ2 G2 H2 n2 k2 vs rs => k2 G2 H2 (Nx.refl n2.abs) (v :: vs) ⟨v, vs, rfl, rv.mono n2.leg, rs⟩⟩⟩
theorem ra_n (i : Nat) (h : PE X e (tVar i)) (r : RA D W X es ms) (hs : starEach (e :: es) X.env = (false, eval e X.env) :: starEach es X.env := by rfl) : RA D W X (e :: es) (argN i ms) :=
  (pa_cons h r hs).imp fun σ H Q ⟨G, ρ, A, k⟩ => by
    obtain ⟨x, v, ev, r0, k0⟩ := peek_ok A (Kg.bind k)
    exact ⟨v, ev, G, ρ, A, (Kg.bind k0).mono fun as ρ2 G2 H2 n2 k2 vs rs => k2 G2 H2 (Nx.refl n2.abs) (v :: vs) ⟨v, vs, rfl, ev, rs⟩⟩

/-! ### calls of built-ins -/
def SnC (D : Wd) (r : List V → Hp → VK → Prop) (g : List PV → Option PV) : Prop := ∀ (G H : Hp) (xs : List PV) (z : PV) (vs : List V) (Q : VK), LeG G H → RepHs D G H xs vs → g xs = some z →
  (∀ G' H' v', Grow G H G' H' → Rep D G' z v' → Q v' H') → r vs H Q
def callB (g : List PV → Option PV) (ms : EM (List AV)) : EM PV := fun ρ => (ms ρ).bind fun as ρ => (lift (derefs as ρ) ρ).bind fun xs ρ => lift (g xs) ρ
theorem callB_le {r : List V → Hp → VK → Prop} {g : List PV → Option PV} (sn : SnC D r g) (σ : St) (H : Hp) (Q : VK) (h : tE D W (callB g ms) σ H Q) : tCB r (tA D W ms) σ H Q := by
  obtain ⟨G, ρ, A, k⟩ := h
  refine ⟨G, ρ, A, (Kg.bind k).mono fun as ρ1 G1 H1 n1 k1 vs rv => ?_⟩
  obtain ⟨xs, e, f⟩ := Kg.lift n1.abs (Kg.bind k1)
  obtain ⟨z, e2, f2⟩ := Kg.lift n1.abs (f G1 H1 (Grow.refl n1.abs.le))
  exact sn G1 H1 xs z vs Q n1.abs.le (derefs_rep n1.abs rv e) e2 fun G' H' v' g' r' => f2 G' H' g' v' r'
theorem re_callB {id : String} {x : Str} {r : List V → Hp → VK → Prop} {g : List PV → Option PV} (hc : CallR X (.builtin id) r) (sn : SnC D r g) (hg : Gl X x) (hm : X.mg x = none) (hv : bootBuiltins x = some (.builtin id)) (ha : RA D W X (e :: es) ms)
    (hn : x ≠ "__name__" := by decide) (hdb : (x == ("__debug__" : Str)) = false := by decide) (he : starEach (e :: es) X.env = (false, eval e X.env) :: starEach es X.env := by rfl) (hpl : (backTo pos (starEach es X.env)).any (·.1) = false := by rfl) :
    RE D W X (.Call (.Name x p) (e :: es) [] pos) (callB g ms) := (pe_callB hc hg hm hv ha hn hdb he hpl).imp (callB_le sn)
theorem re_callTy {T : String} {x : Str} {r : List V → Hp → VK → Prop} {g : List PV → Option PV} (hc : CallR X (.type T) r) (sn : SnC D r g) (hg : Gl X x) (hm : X.mg x = none) (hv : bootBuiltins x = some (.type T)) (ha : RA D W X (e :: es) ms)
    (hn : x ≠ "__name__" := by decide) (hdb : (x == ("__debug__" : Str)) = false := by decide) (he : starEach (e :: es) X.env = (false, eval e X.env) :: starEach es X.env := by rfl) (hpl : (backTo pos (starEach es X.env)).any (·.1) = false := by rfl) :
    RE D W X (.Call (.Name x p) (e :: es) [] pos) (callB g ms) := (pe_callTy hc hg hm hv ha hn hdb he hpl).imp (callB_le sn)

/-! ### defs: their pure meaning -/
inductive Ret where
  | v (x : PV) | o (m : MO)
inductive FOut where
  | ok (r : Ret) (as : List Slot) | exc (e : Ex) (as : List Slot) | stuck
abbrev FM := List Slot → FOut
/-- what a def hands back -/
def RRep (D : Wd) (G H G' H' : Hp) (r : Ret) (v : V) : Prop := match r with
  | .v x => Rep D G' x v
  | .o m => ∃ a, v = .ref a ∧ G' a = none ∧ H a = none ∧ MRep D G' H' a m
def argsOk : List Slot → Bool
  | [] => true
  | .val _ :: r => argsOk r
  | .own true _ :: r => argsOk r
  | _ :: _ => false
/-- the promise: the pure meaning's answer -/
def FSp (D : Wd) (f : FM) : Sp := fun vs H Q E => ∃ G as, argsOk as = true ∧ Abs D G H (vs.map some) as ∧ match f as with
  | .ok r as' => ∀ G' H' v, Nx D G H (vs.map some) as G' H' (vs.map some) as' → RRep D G H G' H' r v → Q v H'
  | .exc e as' => ∀ G' H' c d, Nx D G H (vs.map some) as G' H' (vs.map some) as' → ERep D G' c d e → E c d H'
  | .stuck => False

/-- the slots that a call hands on -/
def mkArgs : List AV → Ev → Option (List Slot)
  | [], _ => some []
  | .v x :: r, ρ => (mkArgs r ρ).map (.val x :: ·)
  | .s i :: r, ρ => match ρ[i]? with
    | some (.val x) => (mkArgs r ρ).map (.val x :: ·)
    | some (.own _ m) => (mkArgs r ρ).map (.own true m :: ·)
    | _ => none
/-- no own object is handed on twice -/
def owns : List AV → Ev → List Nat
  | [], _ => []
  | .v _ :: r, ρ => owns r ρ
  | .s i :: r, ρ => match ρ[i]? with
    | some (.own _ _) => i :: owns r ρ
    | _ => owns r ρ
/-- what the callee has made of the own objects -/
def putBack : List AV → List Slot → Ev → Ev
  | .s i :: r, s :: as, ρ => match ρ[i]?, s with
    | some (.own b _), .own _ m => putBack r as (ρ.set i (.own b m))
    | _, _ => putBack r as ρ
  | _ :: r, _ :: as, ρ => putBack r as ρ
  | _, _, ρ => ρ

theorem putBack_v (x : PV) (r : List AV) (s : Slot) (as : List Slot) (ρ : Ev) : putBack (.v x :: r) (s :: as) ρ = putBack r as ρ := rfl
theorem putBack_s (i : Nat) (r : List AV) (s : Slot) (as : List Slot) (ρ : Ev) : putBack (.s i :: r) (s :: as) ρ = match ρ[i]?, s with
    | some (.own b _), .own _ m => putBack r as (ρ.set i (.own b m))
    | _, _ => putBack r as ρ := rfl
theorem owns_set {ρ : Ev} {j : Nat} {b b' : Bool} {m m' : MO} (h : ρ[j]? = some (.own b m)) : ∀ as : List AV, owns as (ρ.set j (.own b' m')) = owns as ρ
  | [] => rfl
  | .v _ :: r => by rw [owns, owns]; exact owns_set h r
  | .s i :: r => by
    have hj : j < ρ.length := (List.getElem?_eq_some_iff.mp h).1
    rw [owns, owns, owns_set h r]
    by_cases e : i = j
    · subst e
      rw [List.getElem?_set_self hj, h]
    · rw [List.getElem?_set_ne (Ne.symm e)]
theorem putBack_ne {i : Nat} : ∀ (as : List AV) (ss : List Slot) (ρ : Ev), i ∉ owns as ρ → (putBack as ss ρ)[i]? = ρ[i]?
  | [], _, ρ, _ => by simp [putBack]
  | .v x :: r, [], ρ, h => by simp [putBack]
  | .v x :: r, s :: ss, ρ, h => by
    rw [putBack_v]
    exact putBack_ne r ss ρ h
  | .s j :: r, [], ρ, h => by simp [putBack]
  | .s j :: r, s :: ss, ρ, h => by
    rw [owns] at h
    rw [putBack_s]
    split
    · rename_i b m0 b2 m e
      rw [e] at h
      have hij : i ≠ j := fun z => h (by rw [z]; exact List.mem_cons_self)
      rw [putBack_ne r ss _ (by rw [owns_set e]; exact fun z => h (List.mem_cons_of_mem _ z)), List.getElem?_set_ne (Ne.symm hij)]
    · refine putBack_ne r ss ρ fun z => h ?_
      split
      · exact List.mem_cons_of_mem _ z
      · exact z
theorem mem_owns {i : Nat} {b : Bool} {m : MO} {ρ : Ev} (h : ρ[i]? = some (.own b m)) : ∀ {as : List AV} {j : Nat}, as[j]? = some (.s i) → i ∈ owns as ρ
  | [], j, e => by simp at e
  | .v x :: r, 0, e => by simp at e
  | .v x :: r, j + 1, e => by rw [owns]; exact mem_owns h (by simpa using e)
  | .s k :: r, 0, e => by
    simp at e; subst e
    rw [owns, h]
    exact List.mem_cons_self
  | .s k :: r, j + 1, e => by
    have := mem_owns (as := r) (j := j) h (by simpa using e)
    rw [owns]
    split
    · exact List.mem_cons_of_mem _ this
    · exact this
theorem putBack_eq {i : Nat} {b b2 : Bool} {m m' : MO} : ∀ (as : List AV) (ss : List Slot) (ρ : Ev) (j : Nat), (owns as ρ).Nodup → as[j]? = some (.s i) → ρ[i]? = some (.own b m) → ss[j]? = some (.own b2 m') → (putBack as ss ρ)[i]? = some (.own b m')
  | [], _, _, j, _, e, _, _ => by simp at e
  | _ :: _, [], _, j, _, _, _, e => by simp at e
  | .v x :: r, s :: ss, ρ, 0, _, e, _, _ => by simp at e
  | .v x :: r, s :: ss, ρ, j + 1, nd, e, h, e2 => by
    rw [putBack_v]
    exact putBack_eq r ss ρ j nd (by simpa using e) h (by simpa using e2)
  | .s k :: r, s :: ss, ρ, 0, nd, e, h, e2 => by
    simp at e e2; subst e; subst e2
    rw [owns, h] at nd
    have hk := (List.nodup_cons.mp nd).1
    have hl : k < ρ.length := (List.getElem?_eq_some_iff.mp h).1
    rw [putBack_s, h]
    show (putBack r ss (ρ.set k (.own b m')))[k]? = _
    rw [putBack_ne r ss _ (by rw [owns_set h]; exact hk), List.getElem?_set_self hl]
  | .s k :: r, s :: ss, ρ, j + 1, nd, e, h, e2 => by
    have hm : i ∈ owns r ρ := mem_owns h (j := j) (by simpa using e)
    rw [owns] at nd
    rw [putBack_s]
    split
    · rename_i b' m0 b3 m3 ek
      rw [ek] at nd
      obtain ⟨hk, nd'⟩ := List.nodup_cons.mp nd
      have hik : i ≠ k := fun z => hk (z ▸ hm)
      refine putBack_eq r ss _ j (by rw [owns_set ek]; exact nd') (by simpa using e) (m := m) ?_ (by simpa using e2)
      rw [List.getElem?_set_ne (Ne.symm hik)]
      exact h
    · refine putBack_eq r ss ρ j ?_ (by simpa using e) h (by simpa using e2)
      split at nd
      · exact (List.nodup_cons.mp nd).2
      · exact nd
theorem owns_inj {i : Nat} {b : Bool} {m : MO} {ρ : Ev} (h : ρ[i]? = some (.own b m)) : ∀ (as : List AV) (j k : Nat), (owns as ρ).Nodup → as[j]? = some (.s i) → as[k]? = some (.s i) → j = k
  | [], j, _, _, e, _ => by simp at e
  | .v x :: r, 0, _, _, e, _ => by simp at e
  | .v x :: r, j + 1, 0, _, _, e => by simp at e
  | .v x :: r, j + 1, k + 1, nd, e, e2 => by rw [owns_inj h r j k nd (by simpa using e) (by simpa using e2)]
  | .s l :: r, 0, 0, _, _, _ => rfl
  | .s l :: r, 0, k + 1, nd, e, e2 => by
    simp at e; subst e
    rw [owns, h] at nd
    exact absurd (mem_owns h (j := k) (by simpa using e2)) (List.nodup_cons.mp nd).1
  | .s l :: r, j + 1, 0, nd, e, e2 => by
    simp at e2; subst e2
    rw [owns, h] at nd
    exact absurd (mem_owns h (j := j) (by simpa using e)) (List.nodup_cons.mp nd).1
  | .s l :: r, j + 1, k + 1, nd, e, e2 => by
    rw [owns] at nd
    rw [owns_inj h r j k (by
      split at nd
      · exact (List.nodup_cons.mp nd).2
      · exact nd) (by simpa using e) (by simpa using e2)]
/-- what stands at a place of the handed slots -/
theorem mkArgs_get {ρ : Ev} : ∀ {as : List AV} {ss : List Slot}, mkArgs as ρ = some ss → ss.length = as.length ∧ argsOk ss = true ∧ ∀ (j : Nat) (s : Slot), ss[j]? = some s →
    (∃ x, s = .val x ∧ (as[j]? = some (.v x) ∨ ∃ i, as[j]? = some (.s i) ∧ ρ[i]? = some (.val x))) ∨ ∃ i b m, s = .own true m ∧ as[j]? = some (.s i) ∧ ρ[i]? = some (.own b m)
  | [], ss, h => by
    cases h
    exact ⟨rfl, rfl, fun j s e => by simp at e⟩
  | .v x :: r, ss, h => by
    rw [mkArgs] at h
    cases q : mkArgs r ρ with
    | none => rw [q] at h; cases h
    | some ts =>
      rw [q] at h; cases h
      obtain ⟨h1, h2, h3⟩ := mkArgs_get q
      refine ⟨by simp [h1], h2, fun j s e => ?_⟩
      cases j with
      | zero => simp at e; subst e; exact .inl ⟨x, rfl, .inl rfl⟩
      | succ j => exact h3 j s (by simpa using e)
  | .s i :: r, ss, h => by
    rw [mkArgs] at h
    split at h
    · rename_i x e0
      cases q : mkArgs r ρ with
      | none => rw [q] at h; cases h
      | some ts =>
        rw [q] at h; cases h
        obtain ⟨h1, h2, h3⟩ := mkArgs_get q
        refine ⟨by simp [h1], h2, fun j s e => ?_⟩
        cases j with
        | zero => simp at e; subst e; exact .inl ⟨x, rfl, .inr ⟨i, rfl, e0⟩⟩
        | succ j => exact h3 j s (by simpa using e)
    · rename_i b m e0
      cases q : mkArgs r ρ with
      | none => rw [q] at h; cases h
      | some ts =>
        rw [q] at h; cases h
        obtain ⟨h1, h2, h3⟩ := mkArgs_get q
        refine ⟨by simp [h1], h2, fun j s e => ?_⟩
        cases j with
        | zero => simp at e; subst e; exact .inr ⟨i, b, m, rfl, rfl, e0⟩
        | succ j => exact h3 j s (by simpa using e)
    · cases h
theorem AVs.get {D : Wd} {G : Hp} {σ : St} : ∀ {as : List AV} {vs : List V} {j : Nat} {a : AV}, AVs D G σ as vs → as[j]? = some a → ∃ v, vs[j]? = some v ∧ match a with
    | .v x => Rep D G x v
    | .s i => σ[i]? = some (some v)
  | [], _, _, _, _, e => by simp at e
  | .v x :: r, _, 0, _, h, e => by
    simp at e; subst e
    obtain ⟨v, ws, rfl, h1, h2⟩ := h
    exact ⟨v, rfl, h1⟩
  | .s x :: r, _, 0, _, h, e => by
    simp at e; subst e
    obtain ⟨v, ws, rfl, h1, h2⟩ := h
    exact ⟨v, rfl, h1⟩
  | .v x :: r, _, j + 1, _, h, e => by
    obtain ⟨v, ws, rfl, h1, h2⟩ := h
    obtain ⟨u, e1, e2⟩ := AVs.get h2 (by simpa using e)
    exact ⟨u, by simpa using e1, e2⟩
  | .s x :: r, _, j + 1, _, h, e => by
    obtain ⟨v, ws, rfl, h1, h2⟩ := h
    obtain ⟨u, e1, e2⟩ := AVs.get h2 (by simpa using e)
    exact ⟨u, by simpa using e1, e2⟩
theorem AVs.length {D : Wd} {G : Hp} {σ : St} : ∀ {as : List AV} {vs : List V}, AVs D G σ as vs → vs.length = as.length
  | [], _, h => by rw [show _ = [] from h]; rfl
  | .v x :: r, _, h => by obtain ⟨v, ws, rfl, h1, h2⟩ := h; simp [AVs.length h2]
  | .s x :: r, _, h => by obtain ⟨v, ws, rfl, h1, h2⟩ := h; simp [AVs.length h2]
theorem map_some_get {vs : List V} {j : Nat} {v : V} : (vs.map some)[j]? = some (some v) ↔ vs[j]? = some v := by
  rw [List.getElem?_map]
  cases vs[j]? <;> simp

/-- the callee's state -/
theorem abs_args {G H : Hp} {σ : St} {ρ : Ev} {as : List AV} {vs : List V} {ss : List Slot} (A : Abs D G H σ ρ) (r : AVs D G σ as vs) (e : mkArgs as ρ = some ss) (nd : (owns as ρ).Nodup) : Abs D G H (vs.map some) ss := by
  obtain ⟨h1, h2, h3⟩ := mkArgs_get e
  refine ⟨A.le, by rw [List.length_map, r.length, h1], fun j s es => ?_, fun j k b m b' m' a ej ek fj fk => ?_⟩
  · rcases h3 j s es with ⟨x, rfl, h | ⟨i, h, hi⟩⟩ | ⟨i, b, m, rfl, h, hi⟩
    · obtain ⟨v, e1, e2⟩ := r.get h
      exact ⟨v, map_some_get.mpr e1, e2⟩
    · obtain ⟨v, e1, e2⟩ := r.get h
      obtain ⟨v', e3, e4⟩ := A.val hi
      rw [e2] at e3; cases e3
      exact ⟨v, map_some_get.mpr e1, e4⟩
    · obtain ⟨v, e1, e2⟩ := r.get h
      obtain ⟨a, e3, g, q⟩ := A.own hi
      rw [e2] at e3; cases e3
      exact ⟨a, map_some_get.mpr e1, g, q⟩
  · rcases h3 j _ ej with ⟨x, z, _⟩ | ⟨i, b1, m1, z, h, hi⟩
    · cases z
    rcases h3 k _ ek with ⟨x, z', _⟩ | ⟨i', b2, m2, z', h', hi'⟩
    · cases z'
    obtain ⟨v, e1, e2⟩ := r.get h
    obtain ⟨v', e1', e2'⟩ := r.get h'
    rw [map_some_get] at fj fk
    rw [fj] at e1; cases e1
    rw [fk] at e1'; cases e1'
    have := A.inj i i' _ _ _ _ a hi hi' e2 e2'
    subst this
    exact owns_inj hi as j k nd h h'
theorem ow_args {G : Hp} {σ : St} {ρ : Ev} {as : List AV} {vs : List V} {ss : List Slot} (r : AVs D G σ as vs) (e : mkArgs as ρ = some ss) {a : Addr} : Ow (vs.map some) ss a → ∃ (i j : Nat) (b : Bool) (m : MO), as[j]? = some (.s i) ∧ ρ[i]? = some (.own b m) ∧ σ[i]? = some (some (.ref a)) ∧ ss[j]? = some (.own true m) ∧ (vs.map some)[j]? = some (some (.ref a)) := by
  rintro ⟨j, b, m, ej, fj⟩
  obtain ⟨h1, h2, h3⟩ := mkArgs_get e
  rcases h3 j _ ej with ⟨x, z, _⟩ | ⟨i, b1, m1, z, h, hi⟩
  · cases z
  · cases z
    obtain ⟨v, e1, e2⟩ := r.get h
    have fj' := map_some_get.mp fj
    rw [fj'] at e1; cases e1
    exact ⟨i, j, b1, _, h, hi, e2, ej, fj⟩
theorem owF_args {ρ : Ev} {as : List AV} {vs : List V} {ss : List Slot} (e : mkArgs as ρ = some ss) {a : Addr} : ¬ OwF (vs.map some) ss a := by
  rintro ⟨j, m, ej, fj⟩
  obtain ⟨h1, h2, h3⟩ := mkArgs_get e
  rcases h3 j _ ej with ⟨x, z, _⟩ | ⟨i, b1, m1, z, h, hi⟩
  · cases z
  · cases z
/-- behind the call -/
theorem nx_call {G H G' H' : Hp} {σ : St} {ρ : Ev} {as : List AV} {vs : List V} {ss ss' : List Slot} (A : Abs D G H σ ρ) (r : AVs D G σ as vs) (e : mkArgs as ρ = some ss) (nd : (owns as ρ).Nodup)
    (n : Nx D G H (vs.map some) ss G' H' (vs.map some) ss') : Nx D G H σ ρ G' H' σ (putBack as ss' ρ) := by
  -- what stands where
  have own : ∀ (i j : Nat) (b : Bool) (m : MO), as[j]? = some (.s i) → ρ[i]? = some (.own b m) → ∃ m', (putBack as ss' ρ)[i]? = some (.own b m') ∧ ss'[j]? = some (.own true m') := fun i j b m h hi => by
    obtain ⟨h1, h2, h3⟩ := mkArgs_get e
    have hj : j < ss.length := by rw [h1]; exact (List.getElem?_eq_some_iff.mp h).1
    rcases h3 j _ (List.getElem?_eq_getElem hj) with ⟨x, z, h' | ⟨i', h', hi'⟩⟩ | ⟨i', b1, m1, z, h', hi'⟩
    · rw [h] at h'; cases h'
    · rw [h] at h'; cases h'
      rw [hi] at hi'; cases hi'
    · rw [h] at h'; cases h'
      rw [hi] at hi'; cases hi'
      obtain ⟨⟨m', e'⟩, _⟩ := n.br j m (by rw [← z]; exact List.getElem?_eq_getElem hj)
      exact ⟨m', putBack_eq as ss' ρ j nd h hi e', e'⟩
  have cases_ : ∀ i, (i ∈ owns as ρ ∧ ∃ (j : Nat) (b : Bool) (m : MO), as[j]? = some (.s i) ∧ ρ[i]? = some (.own b m)) ∨ (putBack as ss' ρ)[i]? = ρ[i]? := fun i => by
    by_cases hi : i ∈ owns as ρ
    · refine .inl ⟨hi, ?_⟩
      have : ∀ (l : List AV), i ∈ owns l ρ → ∃ (j : Nat) (b : Bool) (m : MO), l[j]? = some (.s i) ∧ ρ[i]? = some (.own b m) := by
        intro l
        induction l with
        | nil => intro h; cases h
        | cons x l ih =>
          intro h
          cases x with
          | v x =>
            obtain ⟨j, b, m, h1, h2⟩ := ih h
            exact ⟨j + 1, b, m, by simpa using h1, h2⟩
          | s k =>
            rw [owns] at h
            split at h
            · rename_i b m ek
              rcases List.mem_cons.mp h with rfl | h
              · exact ⟨0, b, m, rfl, ek⟩
              · obtain ⟨j, b, m, h1, h2⟩ := ih h
                exact ⟨j + 1, b, m, by simpa using h1, h2⟩
            · obtain ⟨j, b, m, h1, h2⟩ := ih h
              exact ⟨j + 1, b, m, by simpa using h1, h2⟩
      exact this as hi
    · exact .inr (putBack_ne as ss' ρ hi)
  have bk : ∀ (i : Nat) (b : Bool) (m : MO), (putBack as ss' ρ)[i]? = some (.own b m) → ∃ m', ρ[i]? = some (.own b m') := fun i b m h => by
    rcases cases_ i with ⟨_, j, b', m', h1, h2⟩ | q
    · obtain ⟨m2, h3, _⟩ := own i j b' m' h1 h2
      rw [h3] at h; cases h
      exact ⟨m', h2⟩
    · rw [q] at h; exact ⟨m, h⟩
  have ow' : ∀ a, Ow σ (putBack as ss' ρ) a → Ow σ ρ a := fun a ⟨i, b, m, h, f⟩ => by
    obtain ⟨m', h'⟩ := bk i b m h
    exact ⟨i, b, m', h', f⟩
  have plen : (putBack as ss' ρ).length = ρ.length := by
    have : ∀ (l : List AV) (t : List Slot) (r : Ev), (putBack l t r).length = r.length := by
      intro l
      induction l with
      | nil => intro t r; simp [putBack]
      | cons x l ih =>
        intro t r
        cases t with
        | nil => cases x <;> simp [putBack]
        | cons y t =>
          cases x with
          | v x =>
            rw [putBack_v]
            exact ih t r
          | s k =>
            rw [putBack_s]
            split
            · rw [ih, List.length_set]
            · exact ih t r
    exact this as ss' ρ
  refine ⟨⟨n.abs.le, by rw [plen]; exact A.len, fun i s h => ?_, fun i k b m b' m' a h1 h2 h3 h4 => ?_⟩, n.g, fun a o h no => n.k a o h fun w => ?_, n.d, fun a u h => ?_, fun a h => .inl (ow' a h), fun i m h => ?_, fun i m h => bk i true m h⟩
  · rcases cases_ i with ⟨_, j, b', m', h1, h2⟩ | q
    · obtain ⟨m2, h3, h4⟩ := own i j b' m' h1 h2
      rw [h3] at h; cases h
      obtain ⟨a, ea, g, q⟩ := n.abs.own h4
      obtain ⟨v, e1, e2⟩ := r.get h1
      rw [map_some_get] at ea
      rw [ea] at e1; cases e1
      exact ⟨a, e2, g, q⟩
    · rw [q] at h
      have z := A.sl i s h
      cases s with
      | non => trivial
      | val x => obtain ⟨v, e1, e2⟩ := z; exact ⟨v, e1, e2.mono n.leg⟩
      | exn x => obtain ⟨a, c, d, e0, e1, e2⟩ := z; exact ⟨a, c, d, e0, e1, e2.mono n.leg⟩
      | own b m =>
        obtain ⟨a, e1, g, rm⟩ := z
        obtain ⟨o, ho⟩ := rm.some
        by_cases hp : Ow (vs.map some) ss a
        · obtain ⟨i', j, b1, m1, h1, h2, h3, h4, h5⟩ := ow_args r e hp
          have : i = i' := A.inj i i' _ _ _ _ a h h2 e1 h3
          subst this
          obtain ⟨m2, h6, h7⟩ := own i j b1 m1 h1 h2
          rw [q, h] at h6; cases h6
          obtain ⟨a', ea, g', q'⟩ := n.abs.own h7
          rw [h5] at ea; cases ea
          exact ⟨a, e1, g', q'⟩
        · refine ⟨a, e1, ?_, rm.mono n.leg ((n.k a o ho hp).trans ho.symm)⟩
          cases q2 : G' a with
          | none => rfl
          | some u =>
            rcases n.f a u q2 with z | z | z
            · rw [g] at z; cases z
            · rw [ho] at z; cases z
            · exact absurd z (owF_args e)
  · obtain ⟨m1, q1⟩ := bk i b m h1
    obtain ⟨m2, q2⟩ := bk k b' m' h2
    exact A.inj i k _ _ _ _ a q1 q2 h3 h4
  · obtain ⟨i', j, b1, m1, h1, h2, h3, h4, h5⟩ := ow_args r e w
    exact no ⟨i', b1, m1, h2, h3⟩
  · rcases n.f a u h with z | z | z
    · exact .inl z
    · exact .inr (.inl z)
    · exact absurd z (owF_args e)
  · refine ⟨?_, rfl⟩
    rcases cases_ i with ⟨_, j, b', m', h1, h2⟩ | q
    · obtain ⟨m2, h3, h4⟩ := own i j b' m' h1 h2
      rw [h] at h2; cases h2
      exact ⟨m2, h3⟩
    · exact ⟨m, by rw [q]; exact h⟩
end
end TR

set_option Elab.async false
set_option linter.all false
set_option maxRecDepth 100000
/-! TRG: calls of defs, new lists, statements, defs. -/
namespace TR
open PySem PySem.Spec L2
set_option autoImplicit false
section
variable {D : Wd} {W : WX} {X : Cx} {a b c e : Expr} {es : List Expr} {pos p2 p : Pos} {m m1 m2 : EM PV} {ms : EM (List AV)}

/-- a new object is frozen -/
theorem nx_freeze {G H G1 H1 : Hp} {σ σ1 : St} {ρ ρ1 : Ev} {a : Addr} {m : MO} (n : Nx D G H σ ρ G1 H1 σ1 ρ1) (ga : G1 a = none) (ha : H a = none) (r : MRep D G1 H1 a m) (no : ¬ Ow σ1 ρ1 a) : ∃ G2, Nx D G H σ ρ G2 H1 σ1 ρ1 ∧ Rep D G2 m.pv (.ref a) := by
  obtain ⟨o, ho⟩ := r.some
  have gg : ∀ b u, G1 b = some u → upd G1 a o b = some u := fun b u h => by
    have : b ≠ a := fun z => by rw [z, ga] at h; cases h
    rw [upd_ne this]; exact h
  have lg : LeG G1 (upd G1 a o) := LeG.of_same gg
  have rp : Rep D (upd G1 a o) m.pv (.ref a) := by
    cases m with
    | lst xs =>
      obtain ⟨vs, h, r⟩ := r
      rw [ho] at h; cases h
      exact ⟨a, vs, rfl, .inl (.inl upd_same), r.mono lg⟩
    | dct xs =>
      obtain ⟨vs, h, r⟩ := r
      rw [ho] at h; cases h
      exact ⟨a, vs, rfl, upd_same, r.mono lg⟩
    | obj c xs =>
      obtain ⟨C, dx, vs, h, t, r⟩ := r
      rw [ho] at h; cases h
      exact ⟨a, C, dx, vs, rfl, upd_same, t, r.mono lg⟩
  have le : LeG (upd G1 a o) H1 := fun b u h => by
    by_cases hb : b = a
    · subst hb
      rw [upd_same] at h; cases h; exact ho
    · rw [upd_ne hb] at h; exact n.abs.le _ _ h
  refine ⟨upd G1 a o, ⟨⟨le, n.abs.len, fun j s h => ?_, n.abs.inj⟩, fun b u h => gg b u (n.g b u h), n.k, n.d, fun b u h => ?_, n.w, n.br, n.nb⟩, rp⟩
  · have q := n.abs.sl j s h
    cases s with
    | non => trivial
    | val x => obtain ⟨v, e2, r2⟩ := q; exact ⟨v, e2, r2.mono lg⟩
    | exn x => obtain ⟨a, c, d, e0, e1, e2⟩ := q; exact ⟨a, c, d, e0, e1, e2.mono lg⟩
    | own b m' =>
      obtain ⟨c, e2, gc, r2⟩ := q
      refine ⟨c, e2, ?_, r2.mono lg rfl⟩
      rw [upd_ne]
      · exact gc
      · rintro rfl
        exact no ⟨j, b, m', h, e2⟩
  · by_cases hb : b = a
    · subst hb; exact .inr (.inl ha)
    · rw [upd_ne hb] at h; exact n.f b u h

/-! ### calls of defs -/
def Ret.pv : Ret → PV
  | .v x => x
  | .o m => m.pv
def applyF (f : FM) (as : List AV) : EM Ret := fun ρ => match mkArgs as ρ with
  | none => .stuck
  | some ss => if (owns as ρ).Nodup then (match f ss with
    | .ok r ss' => .ok r (putBack as ss' ρ)
    | .exc e ss' => .exc e (putBack as ss' ρ)
    | .stuck => .stuck) else .stuck
def callF (f : FM) (ms : EM (List AV)) : EM Ret := fun ρ => (ms ρ).bind fun as ρ1 => applyF f as ρ1
/-- the answer frozen -/
def callE (f : FM) (ms : EM (List AV)) : EM PV := fun ρ => (callF f ms ρ).bind fun r ρ => .ok r.pv ρ
/-- the answer a new own object -/
def callO (f : FM) (ms : EM (List AV)) : EM MO := fun ρ => (callF f ms ρ).bind fun r ρ => match r with
  | .o m => .ok m ρ
  | .v _ => .stuck
/-- a reading that gives a new own object -/
def tN (D : Wd) (W : WX) (m : EM MO) : TE := fun σ H Q => ∃ G ρ, Abs D G H σ ρ ∧ Kg D W (m ρ) G H σ ρ fun mo ρ' G' H' => ∀ a, G' a = none → H a = none → MRep D G' H' a mo → ¬ Ow σ ρ' a → Q (.ref a) H'
abbrev RN (D : Wd) (W : WX) (X : Cx) (e : Expr) (m : EM MO) : Prop := PE X e (tN D W m)
def frz (m : EM MO) : EM PV := fun ρ => (m ρ).bind fun mo ρ => .ok mo.pv ρ
theorem re_frz {m : EM MO} (h : RN D W X e m) : RE D W X e (frz m) := h.imp fun σ H Q ⟨G, ρ, A, k⟩ => ⟨G, ρ, A, by
  unfold frz at k
  cases q : m ρ with
  | stuck => rw [q] at k; exact k
  | exc e ρ' => rw [q] at k; exact k
  | ok mo ρ' =>
    rw [q] at k
    intro G' H' n a ga ha r no
    obtain ⟨G2, n2, r2⟩ := nx_freeze n ga ha r no
    exact k G2 H' n2 _ r2⟩
theorem putBack_ow {σ : St} {a : Addr} : ∀ (as : List AV) (ss : List Slot) (ρ : Ev), Ow σ (putBack as ss ρ) a → Ow σ ρ a
  | [], _, ρ, h => by simpa [putBack] using h
  | .v x :: r, [], ρ, h => by simpa [putBack] using h
  | .s x :: r, [], ρ, h => by simpa [putBack] using h
  | .v x :: r, s :: ss, ρ, h => putBack_ow r ss ρ (by rwa [putBack_v] at h)
  | .s k :: r, s :: ss, ρ, h => by
    rw [putBack_s] at h
    split at h
    · rename_i b m0 b2 m ek
      obtain ⟨i, b3, m3, h1, h2⟩ := putBack_ow r ss _ h
      have hk : k < ρ.length := (List.getElem?_eq_some_iff.mp ek).1
      by_cases z : i = k
      · subst z; exact ⟨i, b, m0, ek, h2⟩
      · rw [List.getElem?_set_ne (Ne.symm z)] at h1
        exact ⟨i, b3, m3, h1, h2⟩
    · exact putBack_ow r ss ρ h
/-- what is asked of the callee -/
theorem call_sp {G H : Hp} {σ : St} {ρ : Ev} {as : List AV} {vs : List V} {f : FM} {P : Ret → Ev → Hp → Hp → Prop} {Q : VK} (A : Abs D G H σ ρ) (r : AVs D G σ as vs)
    (k : Kg D W (applyF f as ρ) G H σ ρ P)
    (q : ∀ r ρ' G' H' v, Nx D G H σ ρ G' H' σ ρ' → (∀ a, Ow σ ρ' a → Ow σ ρ a) → (∀ G' H', Nx D G H σ ρ G' H' σ ρ' → P r ρ' G' H') → RRep D G H G' H' r v → Q v H') : FSp D f vs H Q (WE W σ) := by
  unfold applyF at k
  split at k
  · exact False.elim k
  · rename_i ss e
    split at k
    · rename_i nd
      refine ⟨G, ss, (mkArgs_get e).2.1, abs_args A r e nd, ?_⟩
      split at k
      · rename_i rt ss' hf
        try rw [hf]
        exact fun G' H' v n rr => q rt _ G' H' v (nx_call A r e nd n) (fun a => putBack_ow as ss' ρ) k rr
      · rename_i ex ss' hf
        try rw [hf]
        exact fun G' H' c d n er => k G' H' c d (nx_call A r e nd n) er
      · exact False.elim k
    · exact False.elim k
theorem ret_free {G H : Hp} {σ : St} {ρ ρ1 : Ev} {a : Addr} (A : Abs D G H σ ρ) (ha : H a = none) (w : ∀ a, Ow σ ρ1 a → Ow σ ρ a) : ¬ Ow σ ρ1 a := fun h => by
  obtain ⟨⟨o, ho⟩, _⟩ := A.ow_some (w a h)
  rw [ha] at ho; cases ho
theorem Kg.map {α β : Type} {g : α → β} {o : Out α} {G H : Hp} {σ : St} {ρ : Ev} {P : β → Ev → Hp → Hp → Prop} (h : Kg D W (o.bind fun x ρ => .ok (g x) ρ) G H σ ρ P) : Kg D W o G H σ ρ fun x ρ' G' H' => P (g x) ρ' G' H' := by
  cases o <;> exact h
theorem callF_le {f : FM} (σ : St) (H : Hp) (Q : VK) (G : Hp) (ρ : Ev) (A : Abs D G H σ ρ) (h : Kg D W (callF f ms ρ) G H σ ρ fun r ρ' G' H' => ∀ v, (match r with
    | .v x => Rep D G' x v
    | .o m => ∃ a, v = .ref a ∧ Rep D G' m.pv v) → Q v H') : tA D W ms σ H fun vs H1 => FSp D f vs H1 Q (WE W σ) := by
  refine ⟨G, ρ, A, (Kg.bind (o := ms ρ) h).mono fun as ρ1 G1 H1 n1 k1 vs rs => ?_⟩
  refine call_sp n1.abs rs k1 fun r ρ' G' H' v n2 w p rr => ?_
  cases r with
  | v x => exact p G' H' n2 v rr
  | o mo =>
    obtain ⟨a, rfl, ga, ha, rm⟩ := rr
    obtain ⟨G2, n3, r3⟩ := nx_freeze n2 ga ha rm (ret_free n1.abs ha w)
    exact p G2 H' n3 _ ⟨a, rfl, r3⟩
theorem callE_le {f : FM} (σ : St) (H : Hp) (Q : VK) (h : tE D W (callE f ms) σ H Q) : tA D W ms σ H fun vs H1 => FSp D f vs H1 Q (WE W σ) := by
  obtain ⟨G, ρ, A, k⟩ := h
  refine callF_le σ H Q G ρ A ((Kg.map k).mono fun r ρ' G' H' n f v rr => ?_)
  cases r with
  | v x => exact f v rr
  | o mo => obtain ⟨a, rfl, r⟩ := rr; exact f _ r
theorem callO_le {f : FM} (σ : St) (H : Hp) (Q : VK) (h : tN D W (callO f ms) σ H Q) : tA D W ms σ H fun vs H1 => FSp D f vs H1 Q (WE W σ) := by
  obtain ⟨G, ρ, A, k⟩ := h
  have k' : Kg D W (callF f ms ρ) G H σ ρ fun r ρ' G' H' => match r with
    | .v _ => False
    | .o mo => ∀ a, G' a = none → H a = none → MRep D G' H' a mo → ¬ Ow σ ρ' a → Q (.ref a) H' := by
    unfold callO at k
    cases hq : callF f ms ρ with
    | stuck => rw [hq] at k; exact k
    | exc e ρ' => rw [hq] at k; exact k
    | ok r ρ' =>
      rw [hq] at k
      cases r with
      | v x => exact False.elim k
      | o mo => exact k
  refine ⟨G, ρ, A, (Kg.bind (o := ms ρ) k').mono fun as ρ1 G1 H1 n1 k1 vs rs => ?_⟩
  refine call_sp n1.abs rs k1 fun r ρ' G' H' v n2 w p rr => ?_
  cases r with
  | v x => exact False.elim (p G' H' n2)
  | o mo =>
    obtain ⟨a, rfl, ga, ha, rm⟩ := rr
    exact p G' H' n2 a ga (n1.d a ha) rm (ret_free n1.abs ha w)

/-! ### f(e, ..) -/
section
variable {k : Nat} {f : Addr} {fd : FuncData} {ps : List Str} {fm : FM} {x : Str}
theorem pe_call0S {CX : CXT} {sp : Sp} {E : St → XK} (F : FnOk X.prog X.w X.K X.mg X.base CX k f fd ps sp) (hr : Room k X.A) (hg : Gl X x) (hm : X.mg x = some (.ref f)) (hk : PySem.W.keepIn X.K (.ref f) = true) (hb : Binds X.K fd ps []) (hx : ∀ σ, PassesAt CX X σ (E σ))
    (hdb : (x == ("__debug__" : Str)) = false := by decide) : PE X (.Call (.Name x p) [] [] pos) (fun σ H Q => sp [] H Q (E σ)) := by
  refine ⟨fun pins s σ H Q I h => ?_⟩
  refine wpAny_Call_Name_kw (ld_glob I hg hm ?_ hdb)
  exact PySem.W.callWith_K0 I.kIn hk (run_fnSD (us := []) (vs := []) (dvs := []) (ds := []) F hr hb .nil (hx σ) I .nil h)
theorem re_call (F : FnOk X.prog X.w X.K X.mg X.base (L2.CX X.prog X.w) k f fd ps (FSp D fm)) (hr : Room k X.A) (hg : Gl X x) (hm : X.mg x = some (.ref f)) (hk : PySem.W.keepIn X.K (.ref f) = true) (hb : Binds X.K fd ps []) (tk : Takes X W)
    (ha : RA D W X (e :: es) ms) (hdb : (x == ("__debug__" : Str)) = false := by decide) (he : starEach (e :: es) X.env = (false, eval e X.env) :: starEach es X.env := by rfl) (hpl : (backTo pos (starEach es X.env)).any (·.1) = false := by rfl) :
    RE D W X (.Call (.Name x p) (e :: es) [] pos) (callE fm ms) :=
  (pe_callSD (dvs := []) F hr hg hm hk hb .nil (fun σ => passAt tk σ) ha hdb he hpl).imp fun σ H Q h => by
    have := callE_le σ H Q h
    simpa only [tCallSD, List.append_nil] using this
theorem rn_call (F : FnOk X.prog X.w X.K X.mg X.base (L2.CX X.prog X.w) k f fd ps (FSp D fm)) (hr : Room k X.A) (hg : Gl X x) (hm : X.mg x = some (.ref f)) (hk : PySem.W.keepIn X.K (.ref f) = true) (hb : Binds X.K fd ps []) (tk : Takes X W)
    (ha : RA D W X (e :: es) ms) (hdb : (x == ("__debug__" : Str)) = false := by decide) (he : starEach (e :: es) X.env = (false, eval e X.env) :: starEach es X.env := by rfl) (hpl : (backTo pos (starEach es X.env)).any (·.1) = false := by rfl) :
    RN D W X (.Call (.Name x p) (e :: es) [] pos) (callO fm ms) :=
  (pe_callSD (dvs := []) F hr hg hm hk hb .nil (fun σ => passAt tk σ) ha hdb he hpl).imp fun σ H Q h => by
    have := callO_le σ H Q h
    simpa only [tCallSD, List.append_nil] using this
theorem avs_nil {G : Hp} {σ : St} {vs : List V} (h : AVs D G σ [] vs) : vs = [] := h
theorem re_call0 (F : FnOk X.prog X.w X.K X.mg X.base (L2.CX X.prog X.w) k f fd ps (FSp D fm)) (hr : Room k X.A) (hg : Gl X x) (hm : X.mg x = some (.ref f)) (hk : PySem.W.keepIn X.K (.ref f) = true) (hb : Binds X.K fd ps []) (tk : Takes X W)
    (hdb : (x == ("__debug__" : Str)) = false := by decide) : RE D W X (.Call (.Name x p) [] [] pos) (callE fm argNil) :=
  (pe_call0S F hr hg hm hk hb (fun σ => passAt tk σ) hdb).imp fun σ H Q h => by
    obtain ⟨G, ρ, A, k⟩ := callE_le σ H Q h
    exact k G H (Nx.refl A) [] rfl
theorem rn_call0 (F : FnOk X.prog X.w X.K X.mg X.base (L2.CX X.prog X.w) k f fd ps (FSp D fm)) (hr : Room k X.A) (hg : Gl X x) (hm : X.mg x = some (.ref f)) (hk : PySem.W.keepIn X.K (.ref f) = true) (hb : Binds X.K fd ps []) (tk : Takes X W)
    (hdb : (x == ("__debug__" : Str)) = false := by decide) : RN D W X (.Call (.Name x p) [] [] pos) (callO fm argNil) :=
  (pe_call0S F hr hg hm hk hb (fun σ => passAt tk σ) hdb).imp fun σ H Q h => by
    obtain ⟨G, ρ, A, k⟩ := callO_le σ H Q h
    exact k G H (Nx.refl A) [] rfl
end

/-! ### displays -/
def vals : List AV → Option (List PV)
  | [] => some []
  | .v x :: r => (vals r).map (x :: ·)
  | .s _ :: _ => none
theorem vals_rep {G : Hp} {σ : St} : ∀ {as : List AV} {vs : List V} {xs : List PV}, AVs D G σ as vs → vals as = some xs → Reps D G xs vs
  | [], _, _, h, e => by cases e; exact h
  | .v x :: r, _, _, h, e => by
    obtain ⟨v, ws, rfl, h1, h2⟩ := h
    rw [vals] at e
    cases q : vals r with
    | none => rw [q] at e; cases e
    | some ys => rw [q] at e; cases e; exact ⟨v, ws, rfl, h1, vals_rep h2 q⟩
  | .s _ :: _, _, _, _, e => by cases e
def lstM (ms : EM (List AV)) : EM MO := fun ρ => (ms ρ).bind fun as ρ => match vals as with
  | some xs => if xs.length ≤ sizeLine then .ok (.lst xs) ρ else .stuck
  | none => .stuck
def tupM (ms : EM (List AV)) : EM PV := fun ρ => (ms ρ).bind fun as ρ => match vals as with
  | some xs => if xs.length ≤ sizeLine then .ok (.tup xs) ρ else .stuck
  | none => .stuck
theorem rn_lst (h : RA D W X es ms) : RN D W X (.List es pos) (lstM ms) := (pe_lst h).imp fun σ H Q ⟨G, ρ, A, k⟩ => ⟨G, ρ, A, by
  unfold lstM at k
  cases q : ms ρ with
  | stuck => rw [q] at k; exact k
  | exc e ρ' => rw [q] at k; exact k
  | ok as ρ1 =>
    rw [q] at k
    intro G1 H1 n vs rs
    simp only [Out.bind_ok] at k
    split at k
    · rename_i xs ev
      split at k
      · rename_i hz
        have rr := vals_rep rs ev
        refine ⟨by rw [rr.length]; exact hz, fun p hp => ?_⟩
        have gn := Grow.newH (o := .lst vs) n.abs.le hp
        have n2 := n.abs.grow gn
        have gp : G1 p = none := by
          cases z : G1 p with
          | none => rfl
          | some u =>
            have z2 := n.abs.le p u z
            rw [hp] at z2; cases z2
        exact k G1 _ (n.trans n2) p gp (n.d p hp) ⟨vs, upd_same, rr⟩ fun w => by
          obtain ⟨⟨o, ho⟩, _⟩ := n.abs.ow_some w
          rw [hp] at ho; cases ho
      · exact False.elim k
    · exact False.elim k⟩
theorem re_tup {x1 : Nat} (h : RA D W X es ms) : RE D W X (.Tuple es x1 pos) (tupM ms) := (pe_tup h).imp fun σ H Q ⟨G, ρ, A, k⟩ => ⟨G, ρ, A, (Kg.bind k).mono fun as ρ1 G1 H1 n k1 vs rs => by
  split at k1
  · rename_i xs ev
    split at k1
    · rename_i hz
      have rr := vals_rep rs ev
      refine ⟨by rw [rr.length]; exact hz, fun p hp => ?_⟩
      have gn := Grow.new (o := .tup vs) n.abs.le hp
      exact k1 _ _ (n.abs.grow gn) _ ⟨p, vs, rfl, .inl (.inl upd_same), rr.mono gn.leg⟩
    · exact False.elim k1
  · exact False.elim k1⟩
end
end TR

set_option Elab.async false
set_option linter.all false
set_option maxRecDepth 100000
/-! TRH: statements, loops, defs. -/
namespace TR
open PySem PySem.Spec L2
set_option autoImplicit false

inductive SO where
  | nxt (ρ : Ev) | ret (r : Ret) (ρ : Ev) | brk (ρ : Ev) | cnt (ρ : Ev) | exc (e : Ex) (ρ : Ev) | stuck
abbrev SM := Ev → SO
def RetR (D : Wd) (G H : Hp) (σ : St) (ρ : Ev) (G' H' : Hp) (r : Ret) (v : V) : Prop := match r with
  | .v x => Rep D G' x v
  | .o m => ∃ a, v = .ref a ∧ G' a = none ∧ (H a = none ∨ OwF σ ρ a) ∧ MRep D G' H' a m
def Ks (D : Wd) (W : WX) (o : SO) (G H : Hp) (σ : St) (ρ : Ev) (E : Ends) : Prop := match o with
  | .nxt ρ' => ∀ G' H' σ', Nx D G H σ ρ G' H' σ' ρ' → E.nx σ' H'
  | .brk ρ' => ∀ G' H' σ', Nx D G H σ ρ G' H' σ' ρ' → E.bk σ' H'
  | .cnt ρ' => ∀ G' H' σ', Nx D G H σ ρ G' H' σ' ρ' → E.ct σ' H'
  | .ret r ρ' => ∀ G' H' σ' v, Nx D G H σ ρ G' H' σ' ρ' → RetR D G H σ ρ G' H' r v → E.rt v H'
  | .exc e ρ' => ∀ G' H' σ' c d, Nx D G H σ ρ G' H' σ' ρ' → ERep D G' c d e → W c d σ' H'
  | .stuck => False
def tS (D : Wd) (W : WX) (m : SM) : TS := fun E σ H => ∃ G ρ, Abs D G H σ ρ ∧ Ks D W (m ρ) G H σ ρ E
abbrev RS (D : Wd) (W : WX) (X : Cx) (st : Stmt) (m : SM) : Prop := PS X st (tS D W m)
abbrev RSs (D : Wd) (W : WX) (X : Cx) (st : List Stmt) (m : SM) : Prop := PSs X st (tS D W m)
section
variable {D : Wd} {W : WX} {G H G1 H1 G2 H2 : Hp} {σ σ1 σ2 : St} {ρ ρ1 ρ2 : Ev} {E : Ends}
theorem Nx.owF (n : Nx D G H σ ρ G1 H1 σ1 ρ1) {a : Addr} (h : OwF σ1 ρ1 a) : OwF σ ρ a ∨ H a = none := by
  rcases n.w a h.ow with ⟨i, b, m, e, f⟩ | w
  · cases b with
    | false => exact .inl ⟨i, m, e, f⟩
    | true =>
      obtain ⟨⟨m', e'⟩, f'⟩ := n.br i m e
      obtain ⟨j, mj, ej, fj⟩ := h
      have ij := n.abs.inj i j _ _ _ _ a e' ej (f'.trans f) fj
      subst ij
      rw [e'] at ej; cases ej
  · exact .inr w
theorem RetR.back {r : Ret} {v : V} (n : Nx D G H σ ρ G1 H1 σ1 ρ1) (h : RetR D G1 H1 σ1 ρ1 G2 H2 r v) : RetR D G H σ ρ G2 H2 r v := by
  cases r with
  | v x => exact h
  | o m =>
    obtain ⟨a, e, g, f, q⟩ := h
    refine ⟨a, e, g, ?_, q⟩
    rcases f with f | f
    · exact .inl (n.d a f)
    · rcases n.owF f with z | z
      · exact .inr z
      · exact .inl z
theorem Ks.from {o : SO} (n : Nx D G H σ ρ G1 H1 σ1 ρ1) (h : Ks D W o G H σ ρ E) : Ks D W o G1 H1 σ1 ρ1 E := by
  cases o with
  | nxt ρ' => exact fun G' H' σ' k => h G' H' σ' (n.trans k)
  | brk ρ' => exact fun G' H' σ' k => h G' H' σ' (n.trans k)
  | cnt ρ' => exact fun G' H' σ' k => h G' H' σ' (n.trans k)
  | ret r ρ' => exact fun G' H' σ' v k rr => h G' H' σ' v (n.trans k) (rr.back n)
  | exc e ρ' => exact fun G' H' σ' c d k er => h G' H' σ' c d (n.trans k) er
  | stuck => exact h
/-- a statement's outcome handed on -/
def SO.seq (o : SO) (k : SM) : SO := match o with
  | .nxt ρ => k ρ
  | o => o
theorem Ks.seq {o : SO} {k : SM} (h : Ks D W (o.seq k) G H σ ρ E) : Ks D W o G H σ ρ { E with nx := tS D W k E } := by
  cases o with
  | nxt ρ' => exact fun G' H' σ' n => ⟨G', ρ', n.abs, Ks.from n h⟩
  | brk ρ' => exact h
  | cnt ρ' => exact h
  | ret r ρ' => exact h
  | exc e ρ' => exact h
  | stuck => exact h
/-- from an expression's outcome -/
def Out.to {α : Type} (o : Out α) (k : α → SM) : SO := match o with
  | .ok x ρ => k x ρ
  | .exc e ρ => .exc e ρ
  | .stuck => .stuck
@[simp] theorem Out.to_ok {α : Type} (x : α) (ρ : Ev) (k : α → SM) : (Out.ok x ρ).to k = k x ρ := (rfl)
@[simp] theorem Out.to_exc {α : Type} (e : Ex) (ρ : Ev) (k : α → SM) : (Out.exc e ρ : Out α).to k = .exc e ρ := (rfl)
@[simp] theorem Out.to_stuck {α : Type} (k : α → SM) : (Out.stuck : Out α).to k = .stuck := (rfl)
theorem Ks.to {α : Type} {o : Out α} {k : α → SM} (h : Ks D W (o.to k) G H σ ρ E) : Kg D W o G H σ ρ fun x ρ1 G1 H1 => Ks D W (k x ρ1) G1 H1 σ ρ1 E := by
  cases o with
  | ok x ρ' => exact fun G' H' n => Ks.from n h
  | exc e ρ' => exact fun G' H' c d n er => h G' H' σ c d n er
  | stuck => exact h
end

section
variable {D : Wd} {W : WX} {X : Cx} {a b c e : Expr} {es : List Expr} {pos p2 p : Pos} {m m1 m2 : EM PV} {ms : EM (List AV)} {st : Stmt} {rest sa sb : List Stmt} {s1 s2 : SM} {t : EM Bool}
def skipM : SM := fun ρ => .nxt ρ
def seqM (s1 s2 : SM) : SM := fun ρ => (s1 ρ).seq s2
theorem ss_nil : RSs D W X [] skipM := pss_nil.imp fun E σ H ⟨G, ρ, A, k⟩ => k G H σ (Nx.refl A)
theorem ss_cons (h1 : RS D W X st s1) (h2 : RSs D W X rest s2) : RSs D W X (st :: rest) (seqM s1 s2) := (pss_cons h1 h2).imp fun E σ H ⟨G, ρ, A, k⟩ => ⟨G, ρ, A, Ks.seq k⟩
theorem ss_one (h1 : RS D W X st s1) : RSs D W X [st] s1 := pss_one h1
theorem s_pass : RS D W X (.Pass pos) skipM := ps_pass.imp fun E σ H ⟨G, ρ, A, k⟩ => k G H σ (Nx.refl A)
def brkM : SM := fun ρ => .brk ρ
def cntM : SM := fun ρ => .cnt ρ
theorem s_break : RS D W X (.Break pos) brkM := ps_break.imp fun E σ H ⟨G, ρ, A, k⟩ => k G H σ (Nx.refl A)
theorem s_cont : RS D W X (.Continue pos) cntM := ps_continue.imp fun E σ H ⟨G, ρ, A, k⟩ => k G H σ (Nx.refl A)
def exprM (m : EM PV) : SM := fun ρ => (m ρ).to fun _ ρ => .nxt ρ
theorem s_expr (h : RE D W X e m) (hs : swapsWith e none pos.line X.env = pure false := by rfl) : RS D W X (.Expr e pos) (exprM m) :=
  (ps_expr h hs).imp fun E σ H ⟨G, ρ, A, k⟩ => ⟨G, ρ, A, (Ks.to k).mono fun x ρ1 G1 H1 n k1 v r => k1 G1 H1 σ (Nx.refl n.abs)⟩
/-! ### return -/
def retM (m : EM PV) : SM := fun ρ => (m ρ).to fun x ρ => .ret (.v x) ρ
def retO (m : EM MO) : SM := fun ρ => (m ρ).to fun x ρ => .ret (.o x) ρ
def retN : SM := fun ρ => .ret (.v .non) ρ
/-- return of a name: an own object is handed on -/
def retV (i : Nat) : SM := fun ρ => match ρ[i]? with
  | some (.val x) => .ret (.v x) ρ
  | some (.own false m) => .ret (.o m) ρ
  | _ => .stuck
theorem s_ret (h : RE D W X e m) : RS D W X (.Return (some e) pos) (retM m) :=
  (ps_ret h).imp fun E σ H ⟨G, ρ, A, k⟩ => ⟨G, ρ, A, (Ks.to k).mono fun x ρ1 G1 H1 n k1 v r => k1 G1 H1 σ v (Nx.refl n.abs) r⟩
theorem s_retN : RS D W X (.Return none pos) retN := ps_retN.imp fun E σ H ⟨G, ρ, A, k⟩ => k G H σ _ (Nx.refl A) rfl
theorem s_retV (i : Nat) (h : PE X e (tVar i)) : RS D W X (.Return (some e) pos) (retV i) := (ps_ret h).imp fun E σ H ⟨G, ρ, A, k⟩ => by
  unfold retV at k
  split at k
  · rename_i x e1
    obtain ⟨v, e2, r⟩ := A.val e1
    exact ⟨v, e2, k G H σ v (Nx.refl A) r⟩
  · rename_i mo e1
    obtain ⟨ad, e2, g, r⟩ := A.own e1
    exact ⟨_, e2, k G H σ _ (Nx.refl A) ⟨ad, rfl, g, .inr ⟨i, mo, e1, e2⟩, r⟩⟩
  · exact False.elim k
theorem s_retO {mo : EM MO} (h : RN D W X e mo) : RS D W X (.Return (some e) pos) (retO mo) := (ps_ret h).imp fun E σ H ⟨G, ρ, A, k⟩ => ⟨G, ρ, A, by
  unfold retO at k
  cases q : mo ρ with
  | stuck => rw [q] at k; exact k
  | exc e ρ' => rw [q] at k; exact fun G' H' c d n er => k G' H' σ c d n er
  | ok x ρ' =>
    rw [q] at k
    exact fun G' H' n ad g ha r no => k G' H' σ _ n ⟨ad, rfl, g, .inl ha, r⟩⟩
/-! ### if -/
def ifM (t : EM Bool) (s1 s2 : SM) : SM := fun ρ => (t ρ).to fun k ρ => match k with
  | true => s1 ρ
  | false => s2 ρ
theorem s_if (hc : RB D W X c t) (h1 : RSs D W X sa s1) (h2 : RSs D W X sb s2) : RS D W X (.If c sa sb pos) (ifM t s1 s2) :=
  (ps_if hc h1 h2).imp fun E σ H ⟨G, ρ, A, k⟩ => ⟨G, ρ, A, (Ks.to k).mono fun x ρ1 G1 H1 n k1 => by
    cases x with
    | true => rw [if_pos rfl]; exact ⟨G1, ρ1, n.abs, k1⟩
    | false => rw [if_neg Bool.false_ne_true]; exact ⟨G1, ρ1, n.abs, k1⟩⟩

/-! ### name = e -/
/-- a slot that may be stored into -/
def mayPut (ρ : Ev) (i : Nat) : Bool := match ρ[i]? with
  | some (.own true _) => false
  | _ => true
theorem mayPut_no {ρ : Ev} {i : Nat} (h : mayPut ρ i = true) : ∀ m, ρ[i]? ≠ some (.own true m) := fun m e => by
  unfold mayPut at h
  rw [e] at h
  cases h
def putV (i : Nat) (x : PV) : SM := fun ρ => if mayPut ρ i then .nxt (ρ.set i (.val x)) else .stuck
def putO (i : Nat) (m : MO) : SM := fun ρ => if mayPut ρ i then .nxt (ρ.set i (.own false m)) else .stuck
def setM (i : Nat) (m : EM PV) : SM := fun ρ => (m ρ).to (putV i)
def setO (i : Nat) (m : EM MO) : SM := fun ρ => (m ρ).to (putO i)
theorem get_set {α : Type} {l : List α} {i j : Nat} {x y : α} (h : (l.set i x)[j]? = some y) : (j = i ∧ y = x ∧ i < l.length) ∨ (j ≠ i ∧ l[j]? = some y) := by
  by_cases e : j = i
  · subst e
    by_cases hl : j < l.length
    · rw [List.getElem?_set_self hl] at h; cases h; exact .inl ⟨rfl, rfl, hl⟩
    · rw [List.getElem?_eq_none (by simpa using hl)] at h; cases h
  · rw [List.getElem?_set_ne (Ne.symm e)] at h; exact .inr ⟨e, h⟩
theorem abs_putV {G H : Hp} {σ : St} {ρ : Ev} {i : Nat} {x : PV} {v : V} (A : Abs D G H σ ρ) (r : Rep D G x v) (nb : ∀ m, ρ[i]? ≠ some (.own true m)) : Nx D G H σ ρ G H (σ.set i (some v)) (ρ.set i (.val x)) := by
  have own : ∀ (j : Nat) (b : Bool) (m : MO), (ρ.set i (.val x))[j]? = some (.own b m) → j ≠ i ∧ ρ[j]? = some (.own b m) := fun j b m h => by
    rcases get_set h with ⟨_, z, _⟩ | z
    · cases z
    · exact z
  have ne : ∀ {j : Nat}, j ≠ i → (σ.set i (some v))[j]? = σ[j]? := fun h => List.getElem?_set_ne (Ne.symm h)
  refine ⟨⟨A.le, by rw [List.length_set, List.length_set]; exact A.len, fun j s h => ?_, fun j k b m b' m' a h1 h2 h3 h4 => ?_⟩, fun _ _ h => h, fun _ _ h _ => h, fun _ h => h, fun _ _ h => .inl h, fun a h => ?_, fun j m h => ?_, fun j m h => ⟨m, (own j true m h).2⟩⟩
  · rcases get_set h with ⟨rfl, rfl, hl⟩ | ⟨hj, h⟩
    · exact ⟨v, List.getElem?_set_self (by rw [A.len]; exact hl), r⟩
    · rw [ne hj]; exact A.sl j s h
  · obtain ⟨e1, f1⟩ := own j b m h1
    obtain ⟨e2, f2⟩ := own k b' m' h2
    rw [ne e1] at h3
    rw [ne e2] at h4
    exact A.inj j k b m b' m' a f1 f2 h3 h4
  · obtain ⟨j, b, m, h1, h2⟩ := h
    obtain ⟨e1, f1⟩ := own j b m h1
    rw [ne e1] at h2
    exact .inl ⟨j, b, m, f1, h2⟩
  · have hj : j ≠ i := by rintro rfl; exact nb m h
    exact ⟨⟨m, by rw [List.getElem?_set_ne (Ne.symm hj)]; exact h⟩, ne hj⟩
theorem nx_putO {G H G1 H1 : Hp} {σ σ1 : St} {ρ ρ1 : Ev} {i : Nat} {m : MO} {a : Addr} (n : Nx D G H σ ρ G1 H1 σ1 ρ1) (g : G1 a = none) (ha : H a = none) (r : MRep D G1 H1 a m) (no : ¬ Ow σ1 ρ1 a) (nb : ∀ m, ρ1[i]? ≠ some (.own true m)) :
    Nx D G H σ ρ G1 H1 (σ1.set i (some (.ref a))) (ρ1.set i (.own false m)) := by
  have A := n.abs
  have ne : ∀ {j : Nat}, j ≠ i → (σ1.set i (some (.ref a)))[j]? = σ1[j]? := fun h => List.getElem?_set_ne (Ne.symm h)
  have nbi : ∀ m, ρ[i]? ≠ some (.own true m) := fun m h => by
    obtain ⟨⟨m', h'⟩, _⟩ := n.br i m h
    exact nb m' h'
  refine ⟨⟨A.le, by rw [List.length_set, List.length_set]; exact A.len, fun j s h => ?_, fun j k b m1 b' m2 c h1 h2 h3 h4 => ?_⟩, n.g, n.k, n.d, n.f, fun c h => ?_, fun j m1 h => ?_, fun j m1 h => ?_⟩
  · rcases get_set h with ⟨rfl, rfl, hl⟩ | ⟨hj, h⟩
    · exact ⟨a, List.getElem?_set_self (by rw [A.len]; exact hl), g, r⟩
    · rw [ne hj]; exact A.sl j s h
  · rcases get_set h1 with ⟨z1, e1, hl⟩ | ⟨hj, f1⟩
    · rw [z1, List.getElem?_set_self (by rw [A.len]; exact hl)] at h3
      cases h3
      rcases get_set h2 with ⟨z2, _, _⟩ | ⟨hk, f2⟩
      · rw [z1, z2]
      · rw [ne hk] at h4
        exact absurd ⟨k, b', m2, f2, h4⟩ no
    · rw [ne hj] at h3
      rcases get_set h2 with ⟨z2, e2, hl⟩ | ⟨hk, f2⟩
      · rw [z2, List.getElem?_set_self (by rw [A.len]; exact hl)] at h4
        cases h4
        exact absurd ⟨j, b, m1, f1, h3⟩ no
      · rw [ne hk] at h4
        exact A.inj j k b m1 b' m2 c f1 f2 h3 h4
  · obtain ⟨j, b, m1, h1, h2⟩ := h
    rcases get_set h1 with ⟨rfl, e1, hl⟩ | ⟨hj, h1⟩
    · rw [List.getElem?_set_self (by rw [A.len]; exact hl)] at h2
      cases h2
      exact .inr ha
    · rw [ne hj] at h2
      exact n.w c ⟨j, b, m1, h1, h2⟩
  · have hj : j ≠ i := by rintro rfl; exact nbi m1 h
    obtain ⟨⟨m', h'⟩, q⟩ := n.br j m1 h
    exact ⟨⟨m', by rw [List.getElem?_set_ne (Ne.symm hj)]; exact h'⟩, by rw [ne hj]; exact q⟩
  · rcases get_set h with ⟨_, z, _⟩ | ⟨_, h⟩
    · cases z
    · exact n.nb j m1 h
theorem s_set {i : Nat} {x : Str} {pos' : Pos} (hN : X.N.Nodup) (hi : X.N[i]? = some x) (hx : Loc X.env.scope x) (he : RE D W X e m) (hs : swapsWith e (some (.Name x pos')) pos.line X.env = pure false := by rfl)
    (hf : X.fn x = true ∨ X.env.scope.names.lookup x = some .local := by first | exact .inl rfl | exact .inr rfl | assumption) : RS D W X (.Assign [.Name x pos'] e pos) (setM i m) :=
  (ps_set hN hi hx he hs hf).imp fun E σ H ⟨G, ρ, A, k⟩ => ⟨G, ρ, A, (Ks.to k).mono fun x ρ1 G1 H1 n k1 v r => by
    unfold putV at k1
    split at k1
    · rename_i h
      exact k1 G1 H1 _ (abs_putV n.abs r (mayPut_no h))
    · exact False.elim k1⟩
theorem s_setO {i : Nat} {x : Str} {pos' : Pos} {mo : EM MO} (hN : X.N.Nodup) (hi : X.N[i]? = some x) (hx : Loc X.env.scope x) (he : RN D W X e mo) (hs : swapsWith e (some (.Name x pos')) pos.line X.env = pure false := by rfl)
    (hf : X.fn x = true ∨ X.env.scope.names.lookup x = some .local := by first | exact .inl rfl | exact .inr rfl | assumption) : RS D W X (.Assign [.Name x pos'] e pos) (setO i mo) :=
  (ps_set hN hi hx he hs hf).imp fun E σ H ⟨G, ρ, A, k⟩ => ⟨G, ρ, A, by
    unfold setO at k
    cases q : mo ρ with
    | stuck => rw [q] at k; exact k
    | exc e ρ' => rw [q] at k; exact fun G' H' c d n er => k G' H' σ c d n er
    | ok mo ρ' =>
      rw [q] at k
      intro G' H' n ad g ha r no
      rw [Out.to_ok] at k
      unfold putO at k
      split at k
      · rename_i h
        exact k G' H' _ (nx_putO n g ha r no (mayPut_no h))
      · exact False.elim k⟩
end
end TR

set_option Elab.async false
set_option linter.all false
set_option maxRecDepth 100000
/-! TRI: own objects changed, loops, defs. -/
namespace TR
open PySem PySem.Spec L2
set_option autoImplicit false
section
variable {D : Wd} {W : WX} {X : Cx} {a b c e o ix : Expr} {es : List Expr} {pos p2 p : Pos} {m m1 m2 : EM PV} {ms : EM (List AV)} {st : Stmt} {rest sa sb body : List Stmt} {s1 s2 sb' : SM} {t : EM Bool}

/-! ### an own object is changed -/
theorem nx_upd {G H : Hp} {σ : St} {ρ : Ev} {i : Nat} {f : Bool} {m m' : MO} {a : Addr} {o' : HO} (A : Abs D G H σ ρ) (e : ρ[i]? = some (.own f m)) (es : σ[i]? = some (some (.ref a))) (r : MRep D G (upd H a o') a m') :
    Nx D G H σ ρ G (upd H a o') σ (ρ.set i (.own f m')) := by
  obtain ⟨a', e1, ga, r0⟩ := A.own e
  rw [es] at e1; cases e1
  have hi : i < ρ.length := (List.getElem?_eq_some_iff.mp e).1
  have own : ∀ (j : Nat) (b : Bool) (m1 : MO), (ρ.set i (.own f m'))[j]? = some (.own b m1) → ∃ m2, ρ[j]? = some (.own b m2) := fun j b m1 h => by
    rcases get_set h with ⟨z, q, _⟩ | ⟨_, h⟩
    · cases q; rw [z]; exact ⟨m, e⟩
    · exact ⟨m1, h⟩
  have ow : ∀ c, Ow σ (ρ.set i (.own f m')) c → Ow σ ρ c := fun c ⟨j, b, m1, h, q⟩ => by
    obtain ⟨m2, h2⟩ := own j b m1 h
    exact ⟨j, b, m2, h2, q⟩
  refine ⟨⟨fun b u h => ?_, by rw [List.length_set]; exact A.len, fun j s h => ?_, fun j k b m1 b' m2 c h1 h2 h3 h4 => ?_⟩, fun _ _ h => h, fun c u h no => ?_, fun c h => ?_, fun _ _ h => .inl h, fun c h => .inl (ow c h), fun j m1 h => ?_, fun j m1 h => own j true m1 h⟩
  · have hb : b ≠ a := by
      rintro rfl
      rw [ga] at h; cases h
    exact (upd_ne hb).trans (A.le b u h)
  · rcases get_set h with ⟨z, q, _⟩ | ⟨hj, h⟩
    · subst q; rw [z]; exact ⟨a, es, ga, r⟩
    · have q := A.sl j s h
      cases s with
      | non => trivial
      | val x => exact q
      | exn x => exact q
      | own b m1 =>
        obtain ⟨c, e2, gc, r2⟩ := q
        refine ⟨c, e2, gc, r2.mono (LeG.refl G) (upd_ne ?_)⟩
        rintro rfl
        exact hj (A.inj j i _ _ _ _ c h e e2 es)
  · obtain ⟨m3, q1⟩ := own j b m1 h1
    obtain ⟨m4, q2⟩ := own k b' m2 h2
    exact A.inj j k _ _ _ _ c q1 q2 h3 h4
  · have : c ≠ a := by rintro rfl; exact no ⟨i, f, m, e, es⟩
    rw [upd_ne this]; exact h
  · by_cases z : c = a
    · subst z; rw [upd_same] at h; cases h
    · rw [upd_ne z] at h; exact h
  · refine ⟨?_, rfl⟩
    by_cases z : j = i
    · subst z; rw [e] at h; cases h; exact ⟨m', List.getElem?_set_self hi⟩
    · exact ⟨m1, by rw [List.getElem?_set_ne (Ne.symm z)]; exact h⟩

/-! ### x[i] = e -/
def dput (kvs : List (Key × PV)) (k : Key) (x : PV) : List (Key × PV) := if (kvs.any fun kv => decide (kv.1 = k)) = true then kvs.map fun kv => if kv.1 = k then (kv.1, x) else kv else kvs ++ [(k, x)]
def storeQ (m : MO) (k x : PV) : Option MO := match m with
  | .lst xs => match k with
    | .int i => (ixN xs.length i).map fun j => .lst (xs.set j x)
    | _ => none
  | .dct kvs => match keyOf k with
    | some k => if kvs.length < sizeLine then some (.dct (dput kvs k x)) else none
    | none => none
  | .obj _ _ => none
def setIx (i : Nat) (mi mv : EM PV) : SM := fun ρ => (mv ρ).to fun x ρ => (peek i ρ).to fun _ ρ => (mi ρ).to fun k ρ => match ρ[i]? with
  | some (.own b m) => match storeQ m k x with
    | some m' => .nxt (ρ.set i (.own b m'))
    | none => .stuck
  | _ => .stuck
def rSetD : V → V → V → Hp → (Hp → Prop) → Prop := fun o i v H Q => ∃ a H', o = .ref a ∧ DPut H a i v H' ∧ Q H'
theorem set_dict (hu : X.A.units + 1 < cLine) : PSet X rSetD := by
  intro pins s σ H o i v ov iv u Q I r1 r2 r3 h
  obtain ⟨ad, H', rfl, d, q⟩ := h
  cases r1
  exact d_setItem hu I d r2 r3 fun s' I' => ⟨H', I', q⟩
theorem PSet.or {r r' : V → V → V → Hp → (Hp → Prop) → Prop} (h : PSet X r) (h' : PSet X r') : PSet X (fun o i v H Q => r o i v H Q ∨ r' o i v H Q) := by
  intro pins s σ H o i v ov iv u Q I r1 r2 r3 q
  rcases q with q | q
  · exact h pins s σ H o i v ov iv u Q I r1 r2 r3 q
  · exact h' pins s σ H o i v ov iv u Q I r1 r2 r3 q
theorem repd_map {G : Hp} {k : Key} {x : PV} {v : V} (r : Rep D G x v) : ∀ {kvs : List (Key × PV)} {ws : List (Key × V)}, RepD D G kvs ws → RepD D G (kvs.map fun kv => if kv.1 = k then (kv.1, x) else kv) (ws.map fun kv => if kv.1 = k then (kv.1, v) else kv)
  | [], _, h => by rw [show _ = [] from h]; rfl
  | (j, y) :: kvs, _, h => by
    obtain ⟨u, ws, rfl, h1, h2⟩ := h
    have ih := repd_map (k := k) r h2
    rw [List.map_cons, List.map_cons]
    by_cases e : j = k
    · rw [if_pos e, if_pos e]; exact ⟨v, _, rfl, r, ih⟩
    · rw [if_neg e, if_neg e]; exact ⟨u, _, rfl, h1, ih⟩
theorem repd_any {G : Hp} {k : Key} : ∀ {kvs : List (Key × PV)} {ws : List (Key × V)}, RepD D G kvs ws → (ws.any fun kv => decide (kv.1 = k)) = kvs.any fun kv => decide (kv.1 = k)
  | [], _, h => by rw [show _ = [] from h]; rfl
  | (j, y) :: kvs, _, h => by
    obtain ⟨u, ws, rfl, h1, h2⟩ := h
    rw [List.any_cons, List.any_cons, repd_any h2]
theorem repd_append {G : Hp} : ∀ {xs ys : List (Key × PV)} {vs ws : List (Key × V)}, RepD D G xs vs → RepD D G ys ws → RepD D G (xs ++ ys) (vs ++ ws)
  | [], _, _, _, h, k => by rw [show _ = [] from h]; exact k
  | (j, x) :: xs, ys, _, ws, h, k => by
    obtain ⟨v, r, rfl, h1, h2⟩ := h
    exact ⟨v, r ++ ws, rfl, h1, repd_append h2 k⟩
theorem repd_put {G : Hp} {k : Key} {x : PV} {v : V} {kvs : List (Key × PV)} {ws : List (Key × V)} (h : RepD D G kvs ws) (r : Rep D G x v) : RepD D G (dput kvs k x) (putK ws k v) := by
  unfold dput putK
  rw [repd_any h]
  split
  · exact repd_map r h
  · exact repd_append h ⟨v, [], rfl, r, rfl⟩
theorem s_setIx {i : Nat} {pos' : Pos} {mi mv : EM PV} (hu : X.A.units + 1 < cLine) (ho : PE X o (tVar i)) (hi : RE D W X ix mi) (he : RE D W X e mv) (hs : swapsWithSole [.Subscript o ix pos'] e pos.line X.env = pure false := by rfl) (hw : swappedStores [.Subscript o ix pos'] e X.env = pure none := by rfl)
    (h1 : (assignEach [.Subscript o ix pos'] X.env).map (·.2) = [assign (.Subscript o ix pos') X.env] := by rfl)
    (ha : ∀ v, assign (.Subscript o ix pos') X.env v = (do
      let ov ← holding [v] (eval o X.env)
      let iv ← holding [v, ov] (eval ix X.env)
      standAt pos'
      holding [v, ov, iv] (setItem ov iv v)
      release [v, ov, iv] []) := by intro _; rfl) : RS D W X (.Assign [.Subscript o ix pos'] e pos) (setIx i mi mv) :=
  (ps_asg he (pg_sub ho hi (PSet.or set_list (set_dict hu)) ha) hs hw h1).imp fun E σ H ⟨G, ρ, A, k⟩ => ⟨G, ρ, A, (Ks.to k).mono fun x ρ1 G1 H1 n1 k1 v rv => by
    obtain ⟨y, w, ew, rw', k2⟩ := peek_ok n1.abs (Ks.to k1)
    refine ⟨w, ew, G1, ρ1, n1.abs, (Ks.to k2).mono fun kx ρ3 G3 H3 n3 k3 u ru => ?_⟩
    split at k3
    · rename_i f m em
      obtain ⟨ad, e1, g, r⟩ := n3.abs.own em
      rw [ew] at e1; cases e1
      unfold storeQ at k3
      cases m with
      | lst xs =>
        obtain ⟨vs, hv, rs⟩ := r
        cases kx with
        | int j =>
          cases ru
          simp only at k3
          cases q : ixN xs.length j with
          | none => rw [q] at k3; exact False.elim k3
          | some l =>
            rw [q] at k3
            refine .inl ⟨ad, vs, j, l, rfl, rfl, hv, by rw [rs.length]; exact q, ?_⟩
            exact k3 G3 _ σ (nx_upd n3.abs em ew ⟨_, upd_same, rs.set l (rv.mono n3.leg)⟩)
        | _ => exact False.elim k3
      | dct kvs =>
        obtain ⟨ws, hv, rs⟩ := r
        cases q : keyOf kx with
        | none => simp only [q] at k3; exact False.elim k3
        | some key =>
          simp only [q] at k3
          by_cases hz : kvs.length < sizeLine
          · simp only [if_pos hz] at k3
            have hk := key_rep (H := H3) q (ru.toH n3.abs.le)
            subst hk
            refine .inr ⟨ad, _, rfl, DPut.k (k := key) hv (by rw [rs.length]; exact hz), ?_⟩
            exact k3 G3 _ σ (nx_upd n3.abs em ew ⟨_, upd_same, repd_put rs (rv.mono n3.leg)⟩)
          · simp only [if_neg hz] at k3; exact False.elim k3
      | obj _ _ => exact False.elim k3
    · exact False.elim k3⟩

/-! ### methods of own lists -/
/-- a method's answer and the list behind it -/
def SnM (D : Wd) (r : V → List V → Hp → VK → Prop) (g : List PV → List PV → Option (PV × List PV)) : Prop := ∀ (G H : Hp) (l : Addr) (vs : List V) (xs : List PV) (as : List PV) (ws : List V) (z : PV) (ys : List PV) (Q : VK), LeG G H → H l = some (.lst vs) → Reps D G xs vs → Reps D G as ws →
  g xs as = some (z, ys) → (∀ vs' v, Reps D G ys vs' → Rep D G z v → Q v (upd H l (.lst vs'))) → r (.ref l) ws H Q
def methM (g : List PV → List PV → Option (PV × List PV)) (i : Nat) (ms : EM (List AV)) : EM PV := fun ρ => match ρ[i]? with
  | some (.own _ (.lst _)) => (ms ρ).bind fun as ρ => match vals as, ρ[i]? with
    | some args, some (.own b (.lst xs)) => match g xs args with
      | some (z, ys) => .ok z (ρ.set i (.own b (.lst ys)))
      | none => .stuck
    | _, _ => .stuck
  | _ => .stuck
theorem meth_le {i : Nat} {r : V → List V → Hp → VK → Prop} {g : List PV → List PV → Option (PV × List PV)} (sn : SnM D r g) (σ : St) (H : Hp) (Q : VK) (h : tE D W (methM g i ms) σ H Q) : tBM D.K "list" r (tVar i) (tA D W ms) σ H Q := by
  obtain ⟨G, ρ, A, k⟩ := h
  unfold methM at k
  split at k
  · rename_i f xs e
    obtain ⟨ad, e1, g1, vs, hv, rs⟩ := A.own e
    refine ⟨_, e1, .inl ⟨rfl, vs, .inl (.inl hv)⟩, G, ρ, A, (Kg.bind k).mono fun as ρ1 G1 H1 n1 k1 ws rws => ?_⟩
    split at k1
    · rename_i args f2 xs2 ea em
      obtain ⟨ad2, e2, g2, vs2, hv2, rs2⟩ := n1.abs.own em
      rw [e1] at e2; cases e2
      split at k1
      · rename_i z ys eg
        exact sn G1 H1 ad vs2 xs2 args ws z ys Q n1.abs.le hv2 rs2 (vals_rep rws ea) eg fun vs' v r1 r2 => k1 G1 _ (nx_upd n1.abs em e1 ⟨vs', upd_same, r1⟩) v r2
      · exact False.elim k1
    · exact False.elim k1
  · exact False.elim k
def lAppend : List PV → List PV → Option (PV × List PV) := fun xs as => match as with
  | [x] => if xs.length < sizeLine then some (.non, xs ++ [x]) else none
  | _ => none
theorem sn_append : SnM D rAppend lAppend := by
  intro G H l vs xs as ws z ys Q le hv rs ra e q
  unfold lAppend at e
  split at e
  · rename_i x
    split at e
    · rename_i hz
      cases e
      obtain ⟨v, r, rfl, r1, r2⟩ := ra
      rw [show r = [] from r2]
      exact ⟨l, vs, v, rfl, rfl, hv, by rw [rs.length]; exact hz, q _ _ (rs.append (Reps.one r1)) rfl⟩
    · cases e
  · cases e
def lInsert : List PV → List PV → Option (PV × List PV) := fun xs as => match as with
  | [.int i, x] => if xs.length < sizeLine ∧ 0 ≤ i ∧ i < 2 ^ 63 then some (.non, xs.take i.toNat ++ [x] ++ xs.drop i.toNat) else none
  | _ => none
def rInsert : V → List V → Hp → VK → Prop := fun x vs H Q => ∃ (l : Addr) (xs : List V) (i : Int) (y : V), x = .ref l ∧ vs = [.int i, y] ∧ H l = some (.lst xs) ∧ xs.length < sizeLine ∧ 0 ≤ i ∧ i < 2 ^ 63 ∧
    Q .non (upd H l (.lst (xs.take i.toNat ++ [y] ++ xs.drop i.toNat)))
theorem sn_insert : SnM D rInsert lInsert := by
  intro G H l vs xs as ws z ys Q le hv rs ra e q
  unfold lInsert at e
  split at e
  · rename_i i x
    split at e
    · rename_i hz
      cases e
      obtain ⟨v, r, rfl, r1, v2, r', rfl, r2, r3⟩ := ra
      cases r1
      rw [show r' = [] from r3]
      exact ⟨l, vs, i, v2, rfl, rfl, hv, by rw [rs.length]; exact hz.1, hz.2.1, hz.2.2, q _ _ (((rs.take _).append (Reps.one r2)).append (rs.drop _)) rfl⟩
    · cases e
  · cases e
def lPop0 : List PV → List PV → Option (PV × List PV) := fun xs as => match as with
  | [] => (xs[xs.length - 1]?).map fun y => (y, xs.dropLast)
  | _ => none
theorem reps_dropLast {G : Hp} : ∀ {xs : List PV} {vs : List V}, Reps D G xs vs → Reps D G xs.dropLast vs.dropLast := fun {xs vs} h => by
  rw [List.dropLast_eq_take, List.dropLast_eq_take, h.length]
  exact h.take _
theorem sn_pop0 : SnM D rPop lPop0 := by
  intro G H l vs xs as ws z ys Q le hv rs ra e q
  unfold lPop0 at e
  split at e
  · cases h : xs[xs.length - 1]? with
    | none => rw [h] at e; cases e
    | some y =>
      rw [h] at e; cases e
      obtain ⟨v, h1, h2⟩ := rs.get h
      rw [show ws = [] from ra]
      exact ⟨l, vs, v, rfl, rfl, hv, by rw [rs.length]; exact h1, q _ _ (reps_dropLast rs) h2⟩
  · cases e
def lClear : List PV → List PV → Option (PV × List PV) := fun xs as => match as with
  | [] => some (.non, [])
  | _ => none
theorem sn_clear : SnM D rClear lClear := by
  intro G H l vs xs as ws z ys Q le hv rs ra e q
  unfold lClear at e
  split at e
  · cases e
    rw [show ws = [] from ra]
    exact ⟨l, vs, rfl, rfl, hv, q _ _ rfl rfl⟩
  · cases e
def lReverse : List PV → List PV → Option (PV × List PV) := fun xs as => match as with
  | [] => some (.non, xs.reverse)
  | _ => none
theorem reps_reverse {G : Hp} : ∀ {xs : List PV} {vs : List V}, Reps D G xs vs → Reps D G xs.reverse vs.reverse
  | [], _, h => by rw [show _ = [] from h]; rfl
  | x :: xs, _, h => by
    obtain ⟨v, r, rfl, h1, h2⟩ := h
    rw [List.reverse_cons, List.reverse_cons]
    exact (reps_reverse h2).append (Reps.one h1)
theorem sn_reverse : SnM D rReverse lReverse := by
  intro G H l vs xs as ws z ys Q le hv rs ra e q
  unfold lReverse at e
  split at e
  · cases e
    rw [show ws = [] from ra]
    exact ⟨l, vs, rfl, rfl, hv, q _ _ (reps_reverse rs) rfl⟩
  · cases e
/-- x.m(e, ..), x a name with an own list -/
theorem re_lm {apos : Pos} {i : Nat} {name : Str} {id : String} {r : V → List V → Hp → VK → Prop} {g : List PV → List PV → Option (PV × List PV)} (slot : PySem.Slot "list" name id) (hty : typeOf (.builtin id) = pure (.type "method_descriptor")) (hm : MtR X id r) (sn : SnM D r g) (hK : D.K = X.K)
    (ho : PE X o (tVar i)) (ha : RA D W X (e :: es) ms)
    (hbase : attributeBase o name X.env (eval o X.env) = eval o X.env := by rfl)
    (hfew : ((backTo pos (starEach (e :: es) X.env)).all (fun x => !x.1) && (backToKw pos (keywordEach [] X.env)).all (fun x => x.1.isSome)
      && decide ((e :: es).length + ([] : List Keyword).length + (if ([] : List Keyword).isEmpty then 0 else 1) < 30)) = true := by rfl)
    (hline : (apos.endLine == pos.line) = true := by rfl) (hs : starEach (e :: es) X.env = (false, eval e X.env) :: starEach es X.env := by rfl) (hplain : (backTo pos (starEach es X.env)).any (·.1) = false := by rfl) :
    RE D W X (.Call (.Attribute o name apos) (e :: es) [] pos) (methM g i ms) :=
  (pe_bm PySem.F.plainAttrs_list slot hty hm ho ha hbase hfew hline hs hplain).imp (hK ▸ meth_le sn)
theorem re_lm0 {apos : Pos} {i : Nat} {name : Str} {id : String} {r : V → List V → Hp → VK → Prop} {g : List PV → List PV → Option (PV × List PV)} (slot : PySem.Slot "list" name id) (hty : typeOf (.builtin id) = pure (.type "method_descriptor")) (hm : MtR X id r) (sn : SnM D r g) (hK : D.K = X.K)
    (ho : PE X o (tVar i)) (hbase : attributeBase o name X.env (eval o X.env) = eval o X.env := by rfl) (hline : (apos.endLine == pos.line) = true := by rfl) :
    RE D W X (.Call (.Attribute o name apos) [] [] pos) (methM g i argNil) :=
  (pe_bm0 PySem.F.plainAttrs_list slot hty hm ho hbase hline).imp fun σ H Q h => by
    obtain ⟨v, e1, t, G, ρ, A, k⟩ := (hK ▸ meth_le sn σ H Q h : tBM X.K "list" r (tVar i) (tA D W argNil) σ H Q)
    exact ⟨v, e1, t, k G H (Nx.refl A) [] rfl⟩

/-! ### loops -/
def loopK (k : SM) (o : SO) : SO := match o with
  | .nxt ρ => k ρ
  | .cnt ρ => k ρ
  | .brk ρ => .nxt ρ
  | o => o
/-- what holds between two turns: the start's frozen part stays -/
def tG (D : Wd) (W : WX) (G0 : Hp) (k : SM) (E : Ends) : St → Hp → Prop := fun σ H => ∃ G ρ, (∀ a u, G0 a = some u → G a = some u) ∧ Abs D G H σ ρ ∧ Ks D W (k ρ) G H σ ρ E
theorem Ks.loop {o : SO} {k : SM} {G0 G H : Hp} {σ : St} {ρ : Ev} {E : Ends} (g : ∀ a u, G0 a = some u → G a = some u) (h : Ks D W (loopK k o) G H σ ρ E) : Ks D W o G H σ ρ { E with nx := tG D W G0 k E, ct := tG D W G0 k E, bk := E.nx } := by
  cases o with
  | nxt ρ' => exact fun G' H' σ' n => ⟨G', ρ', fun a u z => n.g a u (g a u z), n.abs, Ks.from n h⟩
  | cnt ρ' => exact fun G' H' σ' n => ⟨G', ρ', fun a u z => n.g a u (g a u z), n.abs, Ks.from n h⟩
  | brk ρ' => exact h
  | ret r ρ' => exact h
  | exc e ρ' => exact h
  | stuck => exact h
/-- the turns over xs -/
def forL (tg : PV → SM) (body : SM) : List PV → SM
  | [] => fun ρ => .nxt ρ
  | x :: xs => fun ρ => loopK (forL tg body xs) ((tg x ρ).seq body)
/-- a loop's target: a name, or a tuple of names -/
def TgOk (D : Wd) (W : WX) (g : TG) (tg : PV → SM) : Prop := ∀ (G H : Hp) (σ : St) (ρ : Ev) (x : PV) (v : V) (E : Ends), Abs D G H σ ρ → Rep D G x v → Ks D W (tg x ρ) G H σ ρ E → g v σ H E.nx
theorem tg_name {i : Nat} : TgOk D W (gName i) (putV i) := by
  intro G H σ ρ x v E A r k
  unfold putV at k
  split at k
  · rename_i h
    exact k G H _ (abs_putV A r (mayPut_no h))
  · exact False.elim k
/-- one turn -/
theorem turn_ok {g : TG} {tg : PV → SM} {k : SM} {G0 G H : Hp} {σ : St} {ρ : Ev} {x : PV} {v : V} {E : Ends} (tk : TgOk D W g tg) (g0 : ∀ a u, G0 a = some u → G a = some u) (A : Abs D G H σ ρ) (r : Rep D G x v) (h : Ks D W (loopK k ((tg x ρ).seq sb')) G H σ ρ E) :
    g v σ H fun σ2 H2 => tS D W sb' { E with nx := tG D W G0 k E, ct := tG D W G0 k E, bk := E.nx } σ2 H2 :=
  tk G H σ ρ x v _ A r (Ks.seq (Ks.loop g0 h))
/-- the readings of what is walked -/
def iSeq (K : PySem.W.Frag) (tl : TE) : TI := fun σ H R => tl σ H fun x H1 => (∃ a xs, x = .ref a ∧ SqL K H1 a xs ∧ R (Itl K a) H1) ∨ (∃ a xs, x = .ref a ∧ SqT K H1 a xs ∧ R (Itt K a) H1) ∨ ∃ z, x = .str z ∧ R (Its z) H1
theorem pi_seq {tg l : Expr} {tl : TE} (hl : PE X l tl) : PI X tg l (iSeq X.K tl) := by
  refine ⟨fun pins s σ H R I h => ?_⟩
  refine thn (hl.run pins s σ H _ I h) fun v s1 ⟨x, H1, I1, r1, q1⟩ => ?_
  rcases q1 with ⟨a, xs, rfl, hq, q⟩ | ⟨a, xs, rfl, hq, q⟩ | ⟨z, rfl, q⟩
  · cases r1
    obtain ⟨its, rv, p, hz⟩ := I1.list hq
    refine wpAny_pyIter_list p.isList ?_
    refine ⟨s1.heap.objs.size, [s1.heap.objs.size], _, _, H1, rfl, I1.kept (t' := s1.toks) fun b o e => Heap.get?_push_of_some _ e, turn_list a _, ⟨_, Heap.get?_push_size _ rfl, rfl, rfl⟩, fun b hb => ?_, q⟩
    have e : b = s1.heap.objs.size := by simpa using hb
    subst e
    exact I1.fpOk (Nat.le_refl _) (I1.hok.fresh (Nat.le_refl _))
  · cases r1
    obtain ⟨its, rv, p, hz⟩ := I1.tuple hq
    refine wpAny_pyIter_tuple (show s1.heap.IsTuple a its.toArray from p) ?_
    refine ⟨s1.heap.objs.size, [s1.heap.objs.size], _, _, H1, rfl, I1.kept (t' := s1.toks) fun b o e => Heap.get?_push_of_some _ e, turn_tuple a _, ⟨_, Heap.get?_push_size _ rfl, rfl, rfl⟩, fun b hb => ?_, q⟩
    have e : b = s1.heap.objs.size := by simpa using hb
    subst e
    exact I1.fpOk (Nat.le_refl _) (I1.hok.fresh (Nat.le_refl _))
  · obtain ⟨t, rfl⟩ := r1
    cases ha : z.cps.all (· < 128)
    · exact wpAny_pyIter_wide ha (pi_one (tk := s1.toks) I1 _ (turn_str _ z t "str_iterator" (.inr rfl)) ⟨_, Heap.get?_push_size _ rfl, rfl, rfl⟩ q)
    · exact wpAny_pyIter_ascii ha (pi_one (tk := s1.toks) I1 _ (turn_str _ z t "str_ascii_iterator" (.inl rfl)) ⟨_, Heap.get?_push_size _ rfl, rfl, rfl⟩ q)
/-- the items that are walked -/
def items : PV → Option (List PV)
  | .lst xs => some xs
  | .tup xs => some xs
  | .str s => some (s.cps.toList.map fun c => .str ⟨#[c]⟩)
  | _ => none
def forM (m : EM PV) (tg : PV → SM) (body : SM) : SM := fun ρ => (m ρ).to fun x ρ => match items x with
  | some xs => forL tg body xs ρ
  | none => .stuck
theorem tG_drop {g : TG} {tg : PV → SM} {xs : List PV} {i : Nat} {G0 : Hp} {E : Ends} {σ : St} {H : Hp} (h : tG D W G0 (forL tg sb' (xs.drop i)) E σ H) (hi : xs.length ≤ i) : E.nx σ H := by
  obtain ⟨G, ρ, g0, A, k⟩ := h
  rw [List.drop_eq_nil_of_le hi] at k
  exact k G H σ (Nx.refl A)
theorem for_le {g : TG} {tg : PV → SM} (tk : TgOk D W g tg) (E : Ends) (σ : St) (H : Hp) (h : tS D W (forM m tg sb') E σ H) : tFor (iSeq D.K (tE D W m)) g (tS D W sb') E σ H := by
  obtain ⟨G, ρ, A, k⟩ := h
  refine ⟨G, ρ, A, (Ks.to k).mono fun x ρ1 G1 H1 n1 k1 v rv => ?_⟩
  split at k1
  · rename_i xs ex
    have turn : ∀ (i : Nat) (y : PV) (w : V) (σ : St) (H : Hp), xs[i]? = some y → Rep D G1 y w → tG D W G1 (forL tg sb' (xs.drop i)) E σ H → g w σ H fun σ2 H2 => tS D W sb' { E with nx := tG D W G1 (forL tg sb' (xs.drop (i + 1))) E, ct := tG D W G1 (forL tg sb' (xs.drop (i + 1))) E, bk := E.nx } σ2 H2 := by
      intro i y w σ H ey ry h
      obtain ⟨G2, ρ2, g0, A2, k2⟩ := h
      obtain ⟨hl, he⟩ := List.getElem?_eq_some_iff.mp ey
      rw [List.drop_eq_getElem_cons hl, he] at k2
      exact turn_ok tk g0 A2 (ry.mono (LeG.of_same g0)) k2
    have start : tG D W G1 (forL tg sb' (xs.drop 0)) E σ H1 := ⟨G1, ρ1, fun _ _ h => h, n1.abs, k1⟩
    unfold items at ex
    split at ex
    · cases ex
      obtain ⟨a, vs, rfl, s, rs⟩ := rv
      refine .inl ⟨a, vs, rfl, sqL_mono n1.abs.le s, ?_⟩
      refine for_list (xs := vs) (fun i σ H => tG D W G1 (forL tg sb' (xs.drop i)) E σ H) start (fun i σ H hi h => ?_) (fun i w σ H ew h => ?_) fun σ H h => tG_drop (g := g) h (by rw [rs.length]; exact Nat.le_refl _)
      · obtain ⟨G2, ρ2, g0, A2, k2⟩ := h
        exact sqL_mono A2.le (sqL_mono (LeG.of_same g0) s)
      · have hl : i < xs.length := by rw [← rs.length]; exact (List.getElem?_eq_some_iff.mp ew).1
        obtain ⟨w', e1, e2⟩ := rs.get (List.getElem?_eq_getElem hl)
        rw [ew] at e1; cases e1
        exact turn i _ w σ H (List.getElem?_eq_getElem hl) e2 h
    · cases ex
      obtain ⟨a, vs, rfl, s, rs⟩ := rv
      refine .inr (.inl ⟨a, vs, rfl, sqT_mono n1.abs.le s, ?_⟩)
      refine for_tup (xs := vs) (fun i σ H => tG D W G1 (forL tg sb' (xs.drop i)) E σ H) start (fun i σ H hi h => ?_) (fun i w σ H ew h => ?_) fun σ H h => tG_drop (g := g) h (by rw [rs.length]; exact Nat.le_refl _)
      · obtain ⟨G2, ρ2, g0, A2, k2⟩ := h
        exact sqT_mono A2.le (sqT_mono (LeG.of_same g0) s)
      · have hl : i < xs.length := by rw [← rs.length]; exact (List.getElem?_eq_some_iff.mp ew).1
        obtain ⟨w', e1, e2⟩ := rs.get (List.getElem?_eq_getElem hl)
        rw [ew] at e1; cases e1
        exact turn i _ w σ H (List.getElem?_eq_getElem hl) e2 h
    · rename_i z
      cases ex
      cases rv
      refine .inr (.inr ⟨z, rfl, fun i m σ H => m = z.cps.size - i ∧ i ≤ z.cps.size ∧ tG D W G1 (forL tg sb' ((z.cps.toList.map fun c => PV.str ⟨#[c]⟩).drop i)) E σ H, ⟨_, rfl, Nat.zero_le _, start⟩, ?_⟩)
      rintro i m σ H ⟨rfl, hi, h⟩
      by_cases hlt : i < z.cps.size
      · refine .inr ⟨hlt, tG D W G1 (forL tg sb' ((z.cps.toList.map fun c => PV.str ⟨#[c]⟩).drop (i + 1))) E, fun σ' H' h' => ⟨z.cps.size - (i + 1), by omega, rfl, hlt, h'⟩, fun x H' y => ?_⟩
        obtain ⟨rfl, c, hc, rfl⟩ := y
        refine turn i (.str ⟨#[c]⟩) _ σ _ ?_ rfl h
        rw [List.getElem?_map, Array.getElem?_toList, hc]
        rfl
      · exact .inl ⟨Nat.le_of_not_lt hlt, tG_drop (g := g) h (by simp; omega)⟩
    · cases ex
  · exact False.elim k1
theorem s_for {tgt iter : Expr} {g : TG} {tg : PV → SM} (hp : PassesOwn (model X.prog X.w) X.A X.env X.xe) (hc : X.calm = true) (hK : D.K = X.K) (hi : RE D W X iter m) (hg : PG X tgt g) (tk : TgOk D W g tg) (hb : RSs D W X body sb')
    (hs : ∀ x, foldedSetIterable iter X.env x = pure x := by intro _; rfl) : RS D W X (.For tgt iter body [] pos) (forM m tg sb') :=
  (ps_for hp hc (pi_seq hi) hg hb hs).imp (hK ▸ for_le tk)
/-- range -/
def rng (lo : Int) : Nat → List PV
  | 0 => []
  | n + 1 => .int lo :: rng (lo + 1) n
theorem rng_drop : ∀ (lo : Int) (n i : Nat), (rng lo n).drop i = rng (lo + i) (n - i)
  | lo, 0, i => by simp [rng]
  | lo, n + 1, 0 => by simp [rng]
  | lo, n + 1, i + 1 => by
    rw [rng, List.drop_succ_cons, rng_drop (lo + 1) n i]
    congr 1
    · omega
    · omega
def okR (i : Int) : Bool := decide (-(2 ^ 62) ≤ i) && decide (i < 2 ^ 62)
theorem okR_of {i : Int} (h : okR i = true) : -(2 ^ 62) ≤ i ∧ i < 2 ^ 62 := by
  unfold okR at h
  rw [Bool.and_eq_true, decide_eq_true_eq, decide_eq_true_eq] at h
  exact h
def forR1 (m : EM PV) (tg : PV → SM) (body : SM) : SM := fun ρ => (m ρ).to fun x ρ => match x with
  | .int j => if okR j then forL tg body (rng 0 j.toNat) ρ else .stuck
  | _ => .stuck
def forR2 (m1 m2 : EM PV) (tg : PV → SM) (body : SM) : SM := fun ρ => (m1 ρ).to fun x ρ => (m2 ρ).to fun y ρ => match x, y with
  | .int i, .int j => if okR i && okR j then forL tg body (rng i (j - i).toNat) ρ else .stuck
  | _, _ => .stuck
theorem range_turns {g : TG} {tg : PV → SM} (tk : TgOk D W g tg) {E : Ends} {σ : St} {H1 G1 : Hp} {ρ1 : Ev} {lo : Int} {n : Nat} (A : Abs D G1 H1 σ ρ1) (k1 : Ks D W (forL tg sb' (rng lo n) ρ1) G1 H1 σ ρ1 E) :
    ∃ Wv : Nat → Nat → St → Hp → Prop, (∃ m, Wv 0 m σ H1) ∧ ∀ i m σ H, Wv i m σ H →
      ((Itr lo n).stop i H ∧ E.nx σ H) ∨ ((Itr lo n).go i H ∧ ∃ N : St → Hp → Prop, (∀ σ' H', N σ' H' → ∃ m', m' < m ∧ Wv (i + 1) m' σ' H') ∧ ∀ x H', (Itr lo n).yld i H x H' → g x σ H' fun σ2 H2 => tS D W sb' { E with nx := N, ct := N, bk := E.nx } σ2 H2) := by
  refine for_range (fun i σ H => tG D W G1 (forL tg sb' (rng (lo + i) (n - i))) E σ H) ⟨G1, ρ1, fun _ _ h => h, A, by simpa using k1⟩ (fun i σ H hi h => ?_) fun σ H h => ?_
  · obtain ⟨G2, ρ2, g0, A2, k2⟩ := h
    have e : n - i = (n - (i + 1)) + 1 := by omega
    rw [e, rng] at k2
    have e2 : lo + (i : Int) + 1 = lo + ((i + 1 : Nat) : Int) := by omega
    rw [e2] at k2
    exact turn_ok tk g0 A2 (show Rep D G2 (.int (lo + i)) (.int (lo + i)) from rfl) k2
  · obtain ⟨G2, ρ2, g0, A2, k2⟩ := h
    rw [Nat.sub_self] at k2
    exact k2 G2 H σ (Nx.refl A2)
theorem s_forR1 {tgt a : Expr} {g : TG} {tg : PV → SM} (hp : PassesOwn (model X.prog X.w) X.A X.env X.xe) (hc : X.calm = true) (hg' : Gl X "range") (hm' : X.mg "range" = none) (ha : RE D W X a m) (hg : PG X tgt g) (tk : TgOk D W g tg) (hb : RSs D W X body sb')
    (hs : ∀ x, foldedSetIterable (.Call (.Name "range" p) [a] [] p2) X.env x = pure x := by intro _; rfl) (hst : starEach [a] X.env = [(false, eval a X.env)] := by rfl) : RS D W X (.For tgt (.Call (.Name "range" p) [a] [] p2) body [] pos) (forR1 m tg sb') :=
  (ps_for hp hc (pi_range1 hg' hm' (pa_cons ha pa_nil hst) hst) hg hb hs).imp fun E σ H ⟨G, ρ, A, k⟩ => ⟨G, ρ, A, (Ks.to k).mono fun x ρ1 G1 H1 n1 k1 v rv => by
    cases x with
    | int j =>
      cases rv
      simp only at k1
      split at k1
      · rename_i h
        obtain ⟨h1, h2⟩ := okR_of h
        exact ⟨j, rfl, h1, h2, range_turns tk n1.abs k1⟩
      · exact False.elim k1
    | _ => exact False.elim k1⟩
theorem s_forR2 {tgt a b : Expr} {g : TG} {tg : PV → SM} (hp : PassesOwn (model X.prog X.w) X.A X.env X.xe) (hc : X.calm = true) (hg' : Gl X "range") (hm' : X.mg "range" = none) (ha : RE D W X a m1) (hb' : RE D W X b m2) (hg : PG X tgt g) (tk : TgOk D W g tg) (hb : RSs D W X body sb')
    (hs : ∀ x, foldedSetIterable (.Call (.Name "range" p) [a, b] [] p2) X.env x = pure x := by intro _; rfl) (hst : starEach [a, b] X.env = [(false, eval a X.env), (false, eval b X.env)] := by rfl) (hst2 : starEach [b] X.env = [(false, eval b X.env)] := by rfl) :
    RS D W X (.For tgt (.Call (.Name "range" p) [a, b] [] p2) body [] pos) (forR2 m1 m2 tg sb') :=
  (ps_for hp hc (pi_range2 hg' hm' (pa_cons ha (pa_cons hb' pa_nil hst2) (by rw [hst2]; exact hst)) hst hst2) hg hb hs).imp fun E σ H ⟨G, ρ, A, k⟩ => ⟨G, ρ, A, (Ks.to k).mono fun x ρ1 G1 H1 n1 k1 v rv => ⟨G1, ρ1, n1.abs, (Ks.to k1).mono fun y ρ2 G2 H2 n2 k2 w rw' => by
    cases x with
    | int i =>
      cases rv
      cases y with
      | int j =>
        cases rw'
        simp only at k2
        split at k2
        · rename_i h
          rw [Bool.and_eq_true] at h
          obtain ⟨h1, h2⟩ := okR_of h.1
          obtain ⟨h3, h4⟩ := okR_of h.2
          exact ⟨i, j, rfl, ⟨h1, h2, h3, h4⟩, range_turns tk n2.abs k2⟩
        · exact False.elim k2
      | _ => exact False.elim k2
    | _ => exact False.elim k2⟩⟩

/-! ### while -/
def whF (c : EM Bool) (b : SM) : Nat → SM
  | 0 => fun _ => .stuck
  | n + 1 => fun ρ => (c ρ).to fun k ρ => match k with
    | true => loopK (whF c b n) (b ρ)
    | false => .nxt ρ
def SO.live : SO → Bool
  | .stuck => false
  | _ => true
theorem loopK_mono {k k' : SM} {o : SO} (h : ∀ ρ, (k ρ).live = true → k' ρ = k ρ) (l : (loopK k o).live = true) : loopK k' o = loopK k o := by
  cases o with
  | nxt ρ => exact h ρ l
  | cnt ρ => exact h ρ l
  | _ => rfl
theorem whF_succ {c : EM Bool} {b : SM} (n : Nat) (ρ : Ev) : whF c b (n + 1) ρ = (c ρ).to fun k ρ => match k with
    | true => loopK (whF c b n) (b ρ)
    | false => .nxt ρ := rfl
theorem whF_mono {c : EM Bool} {b : SM} : ∀ {n : Nat} {ρ : Ev}, (whF c b n ρ).live = true → whF c b (n + 1) ρ = whF c b n ρ
  | 0, ρ, h => by cases h
  | n + 1, ρ, h => by
    rw [whF_succ] at h
    rw [whF_succ, whF_succ]
    cases q : c ρ with
    | stuck => rfl
    | exc e ρ' => rfl
    | ok k ρ' =>
      rw [q] at h
      cases k with
      | false => rfl
      | true => exact loopK_mono (fun ρ h => whF_mono h) h
theorem whF_le {c : EM Bool} {b : SM} {n : Nat} {ρ : Ev} (h : (whF c b n ρ).live = true) : ∀ k, whF c b (n + k) ρ = whF c b n ρ
  | 0 => rfl
  | k + 1 => by
    have ih := whF_le h k
    rw [show n + (k + 1) = (n + k) + 1 from rfl, whF_mono (by rw [ih]; exact h), ih]
open Classical in
/-- the loop's meaning: its end, after however many turns -/
noncomputable def whM (c : EM Bool) (b : SM) : SM := fun ρ => if h : ∃ n, (whF c b n ρ).live = true then whF c b (choose h) ρ else .stuck
theorem whM_eq {c : EM Bool} {b : SM} {n : Nat} {ρ : Ev} (h : (whF c b n ρ).live = true) : whM c b ρ = whF c b n ρ := by
  unfold whM
  have hx : ∃ n, (whF c b n ρ).live = true := ⟨n, h⟩
  rw [dif_pos hx]
  have h2 := Classical.choose_spec hx
  have e1 := whF_le h (Classical.choose hx)
  have e2 := whF_le h2 n
  rw [← e1, ← e2, Nat.add_comm]
theorem whM_live {c : EM Bool} {b : SM} {ρ : Ev} (h : (whM c b ρ).live = true) : ∃ n, (whF c b n ρ).live = true ∧ whM c b ρ = whF c b n ρ := by
  by_cases hx : ∃ n, (whF c b n ρ).live = true
  · obtain ⟨n, hn⟩ := hx
    exact ⟨n, hn, whM_eq hn⟩
  · unfold whM at h
    rw [dif_neg hx] at h
    cases h
theorem Ks.live {o : SO} {G H : Hp} {σ : St} {ρ : Ev} {E : Ends} (h : Ks D W o G H σ ρ E) : o.live = true := by
  cases o with
  | stuck => exact False.elim h
  | _ => rfl
theorem while_le {c : EM Bool} (E : Ends) (σ : St) (H : Hp) (h : tS D W (whM c sb') E σ H) : tWhile (tB D W c) (tS D W sb') E σ H := by
  obtain ⟨G, ρ, A, k⟩ := h
  obtain ⟨n, hn, en⟩ := whM_live k.live
  rw [en] at k
  refine ⟨fun m σ H => tS D W (whF c sb' m) E σ H, ⟨n, G, ρ, A, k⟩, ?_⟩
  rintro m σ H ⟨G, ρ, A, k⟩
  cases m with
  | zero => exact False.elim k
  | succ m =>
    refine ⟨G, ρ, A, (Ks.to (show Ks D W ((c ρ).to _) G H σ ρ E from k)).mono fun x ρ1 G1 H1 n1 k1 => ?_⟩
    cases x with
    | false => rw [if_neg Bool.false_ne_true]; exact k1 G1 H1 σ (Nx.refl n1.abs)
    | true =>
      rw [if_pos rfl]
      refine ⟨fun σ' H' => tS D W (whF c sb' m) E σ' H', fun σ' H' h => ⟨m, Nat.lt_succ_self m, h⟩, G1, ρ1, n1.abs, ?_⟩
      have k2 := Ks.loop (G0 := G1) (fun _ _ h => h) k1
      revert k2
      cases sb' ρ1 with
      | nxt ρ' => exact fun k2 G' H' σ' n => let ⟨G2, ρ2, _, h⟩ := k2 G' H' σ' n; ⟨G2, ρ2, h⟩
      | cnt ρ' => exact fun k2 G' H' σ' n => let ⟨G2, ρ2, _, h⟩ := k2 G' H' σ' n; ⟨G2, ρ2, h⟩
      | _ => exact fun k2 => k2
theorem s_while {c : Expr} {tc : EM Bool} (hp : PassesOwn (model X.prog X.w) X.A X.env X.xe) (hc : RB D W X c tc) (hb : RSs D W X body sb') : RS D W X (.While c body [] pos) (whM tc sb') :=
  (ps_while hp hc hb).imp while_le

/-! ### a def by its body -/
def back : List Slot → Ev → List Slot
  | .own _ _ :: as, s :: ρ => s :: back as ρ
  | a :: as, _ :: ρ => a :: back as ρ
  | as, _ => as
/-- the pure meaning of a def of n parameters and N names -/
def fnM (n N : Nat) (body : SM) : FM := fun as => if as.length = n then (match body (as ++ List.replicate (N - n) .non) with
  | .nxt ρ => .ok (.v .non) (back as ρ)
  | .ret r ρ => .ok r (back as ρ)
  | .exc e ρ => .exc e (back as ρ)
  | _ => .stuck) else .stuck
end
end TR

set_option Elab.async false
set_option linter.all false
set_option maxRecDepth 100000
/-! TRJ: a def keeps the promise of its pure meaning. -/
namespace TR
open PySem PySem.Spec L2
set_option autoImplicit false
section
variable {D : Wd}
theorem argsOk_get : ∀ {as : List Slot} {i : Nat} {s : Slot}, argsOk as = true → as[i]? = some s → (∃ x, s = .val x) ∨ ∃ m, s = .own true m
  | [], _, _, _, e => by simp at e
  | .val x :: r, 0, s, h, e => by simp at e; exact .inl ⟨x, e.symm⟩
  | .val x :: r, i + 1, s, h, e => argsOk_get (as := r) h (by simpa using e)
  | .own true m :: r, 0, s, h, e => by simp at e; exact .inr ⟨m, e.symm⟩
  | .own true m :: r, i + 1, s, h, e => argsOk_get (as := r) h (by simpa using e)
  | .own false m :: r, _, s, h, e => by cases h
  | .non :: r, _, s, h, e => by cases h
  | .exn _ :: r, _, s, h, e => by cases h
theorem back_get : ∀ {as : List Slot} {ρ : Ev} {i : Nat} {s : Slot}, as.length ≤ ρ.length → as[i]? = some s → (back as ρ)[i]? = match s with
    | .own _ _ => ρ[i]?
    | s => some s
  | [], _, _, _, _, e => by simp at e
  | a :: r, [], _, _, l, e => by simp at l
  | .own b m :: r, t :: ρ, 0, s, l, e => by simp at e; subst e; rfl
  | .val x :: r, t :: ρ, 0, s, l, e => by simp at e; subst e; rfl
  | .non :: r, t :: ρ, 0, s, l, e => by simp at e; subst e; rfl
  | .exn x :: r, t :: ρ, 0, s, l, e => by simp at e; subst e; rfl
  | .exn x :: r, t :: ρ, i + 1, s, l, e => by
    show (Slot.exn x :: back r ρ)[i + 1]? = _
    simpa using back_get (as := r) (ρ := ρ) (i := i) (by simpa using l) (by simpa using e)
  | .own b m :: r, t :: ρ, i + 1, s, l, e => by
    show (t :: back r ρ)[i + 1]? = _
    simpa using back_get (as := r) (ρ := ρ) (i := i) (by simpa using l) (by simpa using e)
  | .val x :: r, t :: ρ, i + 1, s, l, e => by
    show (Slot.val x :: back r ρ)[i + 1]? = _
    simpa using back_get (as := r) (ρ := ρ) (i := i) (by simpa using l) (by simpa using e)
  | .non :: r, t :: ρ, i + 1, s, l, e => by
    show (Slot.non :: back r ρ)[i + 1]? = _
    simpa using back_get (as := r) (ρ := ρ) (i := i) (by simpa using l) (by simpa using e)
theorem back_len : ∀ {as : List Slot} {ρ : Ev}, as.length ≤ ρ.length → (back as ρ).length = as.length
  | [], _, _ => rfl
  | a :: r, [], l => by simp at l
  | .own b m :: r, t :: ρ, l => by
    show (t :: back r ρ).length = _
    simp [back_len (as := r) (ρ := ρ) (by simpa using l)]
  | .val x :: r, t :: ρ, l => by
    show (Slot.val x :: back r ρ).length = _
    simp [back_len (as := r) (ρ := ρ) (by simpa using l)]
  | .exn x :: r, t :: ρ, l => by
    show (Slot.exn x :: back r ρ).length = _
    simp [back_len (as := r) (ρ := ρ) (by simpa using l)]
  | .non :: r, t :: ρ, l => by
    show (Slot.non :: back r ρ).length = _
    simp [back_len (as := r) (ρ := ρ) (by simpa using l)]
/-- the frame's slots at the entry -/
def enter (N : Nat) (as : List Slot) : Ev := as ++ List.replicate (N - as.length) .non
theorem enter_get {N : Nat} {as : List Slot} {i : Nat} {s : Slot} (h : (enter N as)[i]? = some s) : as[i]? = some s ∨ s = .non := by
  unfold enter at h
  rw [List.getElem?_append] at h
  split at h
  · exact .inl h
  · rw [List.getElem?_replicate] at h
    split at h
    · cases h; exact .inr rfl
    · cases h
theorem abs_enter {G H : Hp} {N : List Str} {vs : List V} {as : List Slot} (hn : as.length ≤ N.length) (A : Abs D G H (vs.map some) as) : Abs D G H (L2.start N vs) (enter N.length as) := by
  have hl : vs.length = as.length := by have := A.len; rwa [List.length_map] at this
  have sg : ∀ {i : Nat}, i < as.length → (L2.start N vs)[i]? = (vs.map some)[i]? := fun h => by
    unfold L2.start
    rw [List.getElem?_append_left (by rw [List.length_map, hl]; exact h)]
  refine ⟨A.le, ?_, fun i s h => ?_, fun i j b m b' m' a h1 h2 h3 h4 => ?_⟩
  · unfold L2.start enter
    rw [List.length_append, List.length_append, List.length_map, List.length_replicate, List.length_replicate, hl]
  · rcases enter_get h with h | rfl
    · rw [sg (List.getElem?_eq_some_iff.mp h).1]; exact A.sl i s h
    · trivial
  · rcases enter_get h1 with h1 | h1
    · rcases enter_get h2 with h2 | h2
      · rw [sg (List.getElem?_eq_some_iff.mp h1).1] at h3
        rw [sg (List.getElem?_eq_some_iff.mp h2).1] at h4
        exact A.inj i j b m b' m' a h1 h2 h3 h4
      · cases h2
    · cases h1
theorem nx_back {G H G' H' : Hp} {N : List Str} {vs : List V} {as : List Slot} {σ' : St} {ρ' : Ev} (hn : as.length ≤ N.length) (ok : argsOk as = true) (A : Abs D G H (vs.map some) as)
    (n : Nx D G H (L2.start N vs) (enter N.length as) G' H' σ' ρ') (hl' : as.length ≤ ρ'.length) : Nx D G H (vs.map some) as G' H' (vs.map some) (back as ρ') := by
  have hl : vs.length = as.length := by have := A.len; rwa [List.length_map] at this
  have sg : ∀ {i : Nat}, i < as.length → (L2.start N vs)[i]? = (vs.map some)[i]? := fun h => by
    unfold L2.start
    rw [List.getElem?_append_left (by rw [List.length_map, hl]; exact h)]
  have eg : ∀ {i : Nat}, i < as.length → (enter N.length as)[i]? = as[i]? := fun h => by
    unfold enter
    rw [List.getElem?_append_left h]
  -- an own slot behind the call
  have own : ∀ (i : Nat) (b : Bool) (m' : MO), (back as ρ')[i]? = some (.own b m') → b = true ∧ (∃ m, as[i]? = some (.own true m)) ∧ ρ'[i]? = some (.own true m') ∧ σ'[i]? = (vs.map some)[i]? := fun i b m' h => by
    have hi : i < as.length := by rw [← back_len hl']; exact (List.getElem?_eq_some_iff.mp h).1
    have e := List.getElem?_eq_getElem hi
    rcases argsOk_get ok e with ⟨x, z⟩ | ⟨m, z⟩
    · rw [z] at e
      rw [back_get hl' e] at h
      cases h
    · rw [z] at e
      rw [back_get hl' e] at h
      obtain ⟨⟨m2, e2⟩, e3⟩ := n.br i m ((eg hi).trans e)
      have h' : ρ'[i]? = some (.own b m') := h
      rw [e2] at h'
      cases h'
      exact ⟨rfl, ⟨m, e⟩, e2, e3.trans (sg hi)⟩
  have ow : ∀ {a : Addr}, Ow (L2.start N vs) (enter N.length as) a → Ow (vs.map some) as a := fun {a} ⟨i, b, m, h, f⟩ => by
    rcases enter_get h with h | h
    · rw [sg (List.getElem?_eq_some_iff.mp h).1] at f; exact ⟨i, b, m, h, f⟩
    · cases h
  have owF : ∀ {a : Addr}, OwF (L2.start N vs) (enter N.length as) a → OwF (vs.map some) as a := fun {a} ⟨i, m, h, f⟩ => by
    rcases enter_get h with h | h
    · rw [sg (List.getElem?_eq_some_iff.mp h).1] at f; exact ⟨i, m, h, f⟩
    · cases h
  refine ⟨⟨n.abs.le, by rw [back_len hl', List.length_map, hl], fun i s h => ?_, fun i j b m b' m' a h1 h2 h3 h4 => ?_⟩, n.g, fun a o h no => n.k a o h fun w => no (ow w), n.d, fun a u h => ?_, fun a h => ?_, fun i m h => ?_, fun i m h => ?_⟩
  · have hi : i < as.length := by rw [← back_len hl']; exact (List.getElem?_eq_some_iff.mp h).1
    have e := List.getElem?_eq_getElem hi
    rcases argsOk_get ok e with ⟨x, z⟩ | ⟨m, z⟩
    · rw [z] at e
      rw [back_get hl' e] at h
      cases h
      obtain ⟨v, e1, r⟩ := A.val e
      exact ⟨v, e1, r.mono n.leg⟩
    · rw [z] at e
      rw [back_get hl' e] at h
      have h' : ρ'[i]? = some s := h
      obtain ⟨⟨m2, e2⟩, e3⟩ := n.br i m ((eg hi).trans e)
      rw [← sg hi, ← e3]
      exact n.abs.sl i s h'
  · obtain ⟨_, _, e1, f1⟩ := own i b m h1
    obtain ⟨_, _, e2, f2⟩ := own j b' m' h2
    exact n.abs.inj i j _ _ _ _ a e1 e2 (f1.trans h3) (f2.trans h4)
  · rcases n.f a u h with h | h | h
    · exact .inl h
    · exact .inr (.inl h)
    · exact .inr (.inr (owF h))
  · obtain ⟨i, b, m, h1, h2⟩ := h
    obtain ⟨_, ⟨m0, e0⟩, e1, f1⟩ := own i b m h1
    exact .inl ⟨i, true, m0, e0, h2⟩
  · have hi : i < as.length := (List.getElem?_eq_some_iff.mp h).1
    obtain ⟨⟨m2, e2⟩, e3⟩ := n.br i m ((eg hi).trans h)
    exact ⟨⟨m2, by rw [back_get hl' h]; exact e2⟩, rfl⟩
  · obtain ⟨_, ⟨m0, e0⟩, _⟩ := own i true m h
    exact ⟨m0, e0⟩
theorem ret_back {G H G' H' : Hp} {N : List Str} {vs : List V} {as : List Slot} {r : Ret} {v : V} (ok : argsOk as = true) (h : RetR D G H (L2.start N vs) (enter N.length as) G' H' r v) : RRep D G H G' H' r v := by
  cases r with
  | v x => exact h
  | o m =>
    obtain ⟨a, e, g, f, q⟩ := h
    refine ⟨a, e, g, ?_, q⟩
    rcases f with f | ⟨i, m, h1, _⟩
    · exact f
    · rcases enter_get h1 with h1 | h1
      · rcases argsOk_get ok h1 with ⟨x, z⟩ | ⟨m, z⟩
        · cases z
        · cases z
      · cases h1
end
/-- the pure meaning of a def of n parameters and N names -/
def fnB (n N : Nat) (body : SM) : FM := fun as => if as.length = n then (match body (enter N as) with
  | .nxt ρ => if n ≤ ρ.length then .ok (.v .non) (back as ρ) else .stuck
  | .ret r ρ => if n ≤ ρ.length then .ok r (back as ρ) else .stuck
  | .exc e ρ => if n ≤ ρ.length then .exc e (back as ρ) else .stuck
  | _ => .stuck) else .stuck
section
variable {P : Program} {w : World} {K : PySem.W.Frag} {mg : Str → Option Value} {base : Heap} {D : Wd}
theorem body_le {n : Nat} {N : List Str} {body : SM} (hn : n ≤ N.length) {vs : List V} {H : Hp} {Q : VK} {E : XK} (h : FSp D (fnB n N.length body) vs H Q E) :
    tS D (fun c d _ H => E c d H) body { nx := fun _ H' => Q .non H', rt := Q } (L2.start N vs) H := by
  obtain ⟨G, as, ok, A, k⟩ := h
  by_cases hl : as.length = n
  · have hN : as.length ≤ N.length := by rw [hl]; exact hn
    refine ⟨G, enter N.length as, abs_enter hN A, ?_⟩
    unfold fnB at k
    rw [if_pos hl] at k
    cases hb : body (enter N.length as) with
    | nxt ρ' =>
      by_cases h1 : n ≤ ρ'.length
      · simp only [hb, if_pos h1] at k
        exact fun G' H' σ' n1 => k G' H' _ (nx_back hN ok A n1 (by rw [hl]; exact h1)) rfl
      · simp only [hb, if_neg h1] at k
    | ret r' ρ' =>
      by_cases h1 : n ≤ ρ'.length
      · simp only [hb, if_pos h1] at k
        exact fun G' H' σ' v n1 rr => k G' H' _ (nx_back hN ok A n1 (by rw [hl]; exact h1)) (ret_back ok rr)
      · simp only [hb, if_neg h1] at k
    | exc e ρ' =>
      by_cases h1 : n ≤ ρ'.length
      · simp only [hb, if_pos h1] at k
        exact fun G' H' σ' c d n1 er => k G' H' c d (nx_back hN ok A n1 (by rw [hl]; exact h1)) er
      · simp only [hb, if_neg h1] at k
    | _ => simp only [hb] at k
  · unfold fnB at k
    rw [if_neg hl] at k
    exact k.elim
theorem fsp_len {n : Nat} {N : Nat} {body : SM} {vs : List V} {H : Hp} {Q : VK} {E : XK} (h : FSp D (fnB n N body) vs H Q E) : vs.length = n := by
  obtain ⟨G, as, ok, A, k⟩ := h
  have := A.len
  rw [List.length_map] at this
  by_cases hl : as.length = n
  · omega
  · unfold fnB at k
    rw [if_neg hl] at k
    exact k.elim
/-- the context of a def's body, in short -/
abbrev cxB (P : Program) (w : World) (K : PySem.W.Frag) (mg : Str → Option Value) (base : Heap) (N : List Str) (qual : Str) (scope : Scope) (f : Addr) (cdv : Value) (A : Around) (outer : List Env) (s : Shared) (H : Hp) (E : XK) : Cx := cxOf (L2.CX P w) P w K mg base N qual scope f cdv A outer s H E
theorem fn_ok {x qual : Str} {st : Stmt} {f : Addr} {fd : FuncData} {N ps : List Str} {k n : Nat} {body : SM} (F : Fun K x qual st f fd) (S : FnScope N ps (defScope st)) (hn : ps.length = n) (hN : n ≤ N.length)
    (hb : ∀ (cdv : Value) (A : Around) (outer : List Env) (s : Shared) (H : Hp) (E : XK), Room k (A.deeper (PyProof.Rows.envOfC qual (defScope st) s.heap.objs.size f cdv)) → RSs D (fun c d _ H => E c d H) (cxB P w K mg base N qual (defScope st) f cdv A outer s H E) (defBody st) body) :
    FnOk P w K mg base (L2.CX P w) (k + 1) f fd ps (FSp D (fnB n N.length body)) :=
  F.okX S (fun vs H Q E h => (fsp_len h).trans hn.symm) fun cdv A outer s H vs Q E hr h => ⟨_, hb cdv A outer s H E hr, body_le hN h⟩
end
end TR

set_option Elab.async false
set_option linter.all false
set_option maxRecDepth 100000
/-! TRK: targets, what is walked, for, comprehensions. -/
namespace TR
open PySem PySem.Spec L2
set_option autoImplicit false
abbrev Tg := PV → Ev → Option Ev
def tgN (i : Nat) : Tg := fun x ρ => if mayPut ρ i then some (ρ.set i (.val x)) else none
def putsT : List Nat → List PV → Ev → Option Ev
  | [], [], ρ => some ρ
  | i :: is, x :: xs, ρ => (tgN i x ρ).bind (putsT is xs)
  | _, _, _ => none
/-- a tuple of names; what comes is a tuple -/
def tgT (is : List Nat) : Tg := fun x ρ => match x with
  | .tup xs => putsT is xs ρ
  | _ => none
/-- .. a list or a tuple -/
def tgL (is : List Nat) : Tg := fun x ρ => match x with
  | .lst xs => putsT is xs ρ
  | _ => none
def W0 : WX := fun _ _ _ _ => False
def TgX (D : Wd) (g : TG) (tg : Tg) (vs : List Nat) : Prop := ∀ (G H : Hp) (σ : St) (ρ : Ev) (x : PV) (v : V) (ρ' : Ev) (Q : St → Hp → Prop), Abs D G H σ ρ → Rep D G x v → tg x ρ = some ρ' →
  (∀ σ', σ'.length = σ.length → (∀ i, i ∉ vs → σ'[i]? = σ[i]?) → Nx D G H σ ρ G H σ' ρ' → Q σ' H) → g v σ H Q
section
variable {D : Wd} {W : WX} {X : Cx} {a b c e o ix : Expr} {es : List Expr} {pos p2 p : Pos} {m m1 m2 : EM PV} {ms : EM (List AV)} {st : Stmt} {rest sa sb body : List Stmt} {s1 s2 sb' : SM} {t : EM Bool}
theorem tgN_some {i : Nat} {x : PV} {ρ ρ' : Ev} (h : tgN i x ρ = some ρ') : mayPut ρ i = true ∧ ρ' = ρ.set i (.val x) := by
  unfold tgN at h
  split at h
  · rename_i h1
    cases h
    exact ⟨h1, rfl⟩
  · cases h
theorem tgx_name {i : Nat} {vs : List Nat} (hi : i ∈ vs) : TgX D (gName i) (tgN i) vs := by
  intro G H σ ρ x v ρ' Q A r e k
  obtain ⟨h1, rfl⟩ := tgN_some e
  exact k _ (by rw [List.length_set]) (fun j hj => List.getElem?_set_ne (by rintro rfl; exact hj hi)) (abs_putV A r (mayPut_no h1))
/-- the targets of a tuple -/
inductive GsOk : TGs → List Nat → Prop
  | nil : GsOk gNil []
  | cons {i : Nat} {is : List Nat} {u : TGs} (h : GsOk u is) : GsOk (gCons (gName i) u) (i :: is)
theorem puts_ok {u : TGs} {is vs : List Nat} (g : GsOk u is) (hv : ∀ i ∈ is, i ∈ vs) : ∀ {G H : Hp} {σ : St} {ρ : Ev} {xs : List PV} {ws : List V} {ρ' : Ev} {Q : St → Hp → Prop}, Abs D G H σ ρ → Reps D G xs ws → putsT is xs ρ = some ρ' →
    (∀ σ', σ'.length = σ.length → (∀ i, i ∉ vs → σ'[i]? = σ[i]?) → Nx D G H σ ρ G H σ' ρ' → Q σ' H) → u ws σ H Q := by
  induction g with
  | nil =>
    intro G H σ ρ xs ws ρ' Q A r e k
    cases xs with
    | nil =>
      rw [show ws = [] from r]
      cases e
      exact ⟨rfl, k σ rfl (fun _ _ => rfl) (Nx.refl A)⟩
    | cons x xs => cases e
  | cons h ih =>
    rename_i i is u
    intro G H σ ρ xs ws ρ' Q A r e k
    cases xs with
    | nil => cases e
    | cons x xs =>
      obtain ⟨v, ws', rfl, r1, r2⟩ := r
      rw [putsT] at e
      cases q : tgN i x ρ with
      | none => rw [q] at e; cases e
      | some ρ1 =>
        rw [q] at e
        refine ⟨v, ws', rfl, tgx_name (vs := vs) (hv i List.mem_cons_self) G H σ ρ x v ρ1 _ A r1 q fun σ1 l1 s1 n1 => ?_⟩
        exact ih (fun j hj => hv j (List.mem_cons_of_mem _ hj)) n1.abs r2 e fun σ2 l2 s2 n2 => k σ2 (l2.trans l1) (fun j hj => (s2 j hj).trans (s1 j hj)) (n1.trans n2)
theorem putsT_len : ∀ {is : List Nat} {xs : List PV} {ρ ρ' : Ev}, putsT is xs ρ = some ρ' → xs.length = is.length
  | [], [], _, _, _ => rfl
  | [], _ :: _, _, _, h => by cases h
  | _ :: _, [], _, _, h => by cases h
  | i :: is, x :: xs, ρ, ρ', h => by
    rw [putsT] at h
    cases q : tgN i x ρ with
    | none => rw [q] at h; cases h
    | some ρ1 => rw [q] at h; simp [putsT_len (is := is) (xs := xs) h]
theorem tgx_tup {u : TGs} {is vs : List Nat} (g : GsOk u is) (hv : ∀ i ∈ is, i ∈ vs) : TgX D (gTup D.K is.length u) (tgT is) vs := by
  intro G H σ ρ x v ρ' Q A r e k
  unfold tgT at e
  split at e
  · rename_i xs
    obtain ⟨ad, ws, rfl, hs, rs⟩ := r
    exact ⟨ad, ws, rfl, sqT_mono A.le hs, by rw [rs.length]; exact putsT_len e, puts_ok g hv A rs e k⟩
  · cases e

/-! ### what is walked -/
def JOk (D : Wd) (G0 : Hp) (J : It) (xs : List PV) : Prop := ∀ (G H : Hp), (∀ a u, G0 a = some u → G a = some u) → LeG G H → ∀ i : Nat,
  (i < xs.length → J.go i H ∧ ∀ v H', J.yld i H v H' → ∃ G' y, xs[i]? = some y ∧ Grow G H G' H' ∧ Rep D G' y v) ∧ (xs.length ≤ i → J.stop i H)
def tI (D : Wd) (W : WX) (m : EM (List PV)) : TI := fun σ H R => ∃ G ρ, Abs D G H σ ρ ∧ Kg D W (m ρ) G H σ ρ fun xs ρ' G' H' => ∀ J, JOk D G' J xs → R J H'
abbrev RI (D : Wd) (W : WX) (X : Cx) (tg e : Expr) (m : EM (List PV)) : Prop := PI X tg e (tI D W m)
theorem _root_.L2.PI.imp {X : Cx} {tg e : Expr} {t t' : TI} (h : PI X tg e t) (i : ∀ σ H Q, t' σ H Q → t σ H Q) : PI X tg e t' := ⟨fun pins s σ H Q I w => h.run pins s σ H Q I (i _ _ _ w)⟩
theorem j_list {G0 : Hp} {ad : Addr} {xs : List PV} {ws : List V} (s : SqL D.K G0 ad ws) (r : Reps D G0 xs ws) : JOk D G0 (Itl D.K ad) xs := by
  intro G H g le i
  have s' : SqL D.K H ad ws := sqL_mono le (sqL_mono (LeG.of_same g) s)
  refine ⟨fun hi => ?_, fun hi => ⟨ws, s', by rw [r.length]; exact hi⟩⟩
  obtain ⟨w, e1, e2⟩ := r.get (List.getElem?_eq_getElem hi)
  refine ⟨⟨ws, w, s', e1⟩, fun v H' ⟨eH, y⟩ => ?_⟩
  subst eH
  have := y ws s'
  rw [e1] at this; cases this
  exact ⟨G, _, List.getElem?_eq_getElem hi, Grow.refl le, e2.mono (LeG.of_same g)⟩
theorem j_tup {G0 : Hp} {ad : Addr} {xs : List PV} {ws : List V} (s : SqT D.K G0 ad ws) (r : Reps D G0 xs ws) : JOk D G0 (Itt D.K ad) xs := by
  intro G H g le i
  have s' : SqT D.K H ad ws := sqT_mono le (sqT_mono (LeG.of_same g) s)
  refine ⟨fun hi => ?_, fun hi => ⟨ws, s', by rw [r.length]; exact hi⟩⟩
  obtain ⟨w, e1, e2⟩ := r.get (List.getElem?_eq_getElem hi)
  refine ⟨⟨ws, w, s', e1⟩, fun v H' ⟨eH, y⟩ => ?_⟩
  subst eH
  have := y ws s'
  rw [e1] at this; cases this
  exact ⟨G, _, List.getElem?_eq_getElem hi, Grow.refl le, e2.mono (LeG.of_same g)⟩
def chrs (z : Str) : List PV := z.cps.toList.map fun c => .str ⟨#[c]⟩
theorem j_str {G0 : Hp} {z : Str} : JOk D G0 (Its z) (chrs z) := by
  intro G H g le i
  have hl : (chrs z).length = z.cps.size := by simp [chrs]
  refine ⟨fun hi => ⟨(by show i < z.cps.size; omega), fun v H' ⟨eH, c, hc, ev⟩ => ?_⟩, fun hi => (by show z.cps.size ≤ i; omega)⟩
  subst eH; subst ev
  refine ⟨G, .str ⟨#[c]⟩, ?_, Grow.refl le, rfl⟩
  unfold chrs
  rw [List.getElem?_map, Array.getElem?_toList, hc]
  rfl
theorem rng_get : ∀ {lo : Int} {n i : Nat}, i < n → (rng lo n)[i]? = some (.int (lo + i))
  | lo, 0, i, h => by omega
  | lo, n + 1, 0, h => by simp [rng]
  | lo, n + 1, i + 1, h => by
    rw [rng, List.getElem?_cons_succ, rng_get (by omega)]
    congr 2
    omega
theorem rng_len : ∀ {lo : Int} {n : Nat}, (rng lo n).length = n
  | lo, 0 => rfl
  | lo, n + 1 => by rw [rng, List.length_cons, rng_len]
theorem j_rng {G0 : Hp} {lo : Int} {n : Nat} : JOk D G0 (Itr lo n) (rng lo n) := by
  intro G H g le i
  rw [rng_len]
  refine ⟨fun hi => ⟨hi, fun v H' ⟨eH, ev⟩ => ?_⟩, fun hi => hi⟩
  subst eH; subst ev
  exact ⟨G, _, rng_get hi, Grow.refl le, rfl⟩
/-- the items of a value -/
def itV (m : EM PV) : EM (List PV) := fun ρ => (m ρ).bind fun x ρ => match x with
  | .lst xs => .ok xs ρ
  | .tup xs => .ok xs ρ
  | .str s => .ok (chrs s) ρ
  | _ => .stuck
theorem ri_v {tg : Expr} (hK : D.K = X.K) (h : RE D W X e m) : RI D W X tg e (itV m) := (pi_seq h).imp (hK ▸ fun σ H R ⟨G, ρ, A, k⟩ => ⟨G, ρ, A, (Kg.bind k).mono fun x ρ1 G1 H1 n1 k1 v rv => by
  cases x with
  | lst xs =>
    obtain ⟨ad, ws, rfl, s, r⟩ := rv
    exact .inl ⟨ad, ws, rfl, sqL_mono n1.abs.le s, k1 G1 H1 (Nx.refl n1.abs) _ (j_list s r)⟩
  | tup xs =>
    obtain ⟨ad, ws, rfl, s, r⟩ := rv
    exact .inr (.inl ⟨ad, ws, rfl, sqT_mono n1.abs.le s, k1 G1 H1 (Nx.refl n1.abs) _ (j_tup s r)⟩)
  | str z =>
    cases rv
    exact .inr (.inr ⟨z, rfl, k1 G1 H1 (Nx.refl n1.abs) _ j_str⟩)
  | _ => exact False.elim k1⟩)
def itR1 (m : EM PV) : EM (List PV) := fun ρ => (m ρ).bind fun x ρ => match x with
  | .int j => if okR j then .ok (rng 0 j.toNat) ρ else .stuck
  | _ => .stuck
def itR2 (m1 m2 : EM PV) : EM (List PV) := fun ρ => (m1 ρ).bind fun x ρ => (m2 ρ).bind fun y ρ => match x with
  | .int i => (match y with
    | .int j => if okR i && okR j then .ok (rng i (j - i).toNat) ρ else .stuck
    | _ => .stuck)
  | _ => .stuck
theorem ri_r1 {tg : Expr} (hg' : Gl X "range") (hm' : X.mg "range" = none) (ha : RE D W X a m) (hst : starEach [a] X.env = [(false, eval a X.env)] := by rfl) : RI D W X tg (.Call (.Name "range" p) [a] [] p2) (itR1 m) :=
  (pi_range1 hg' hm' (pa_cons ha pa_nil hst) hst).imp fun σ H R ⟨G, ρ, A, k⟩ => ⟨G, ρ, A, (Kg.bind k).mono fun x ρ1 G1 H1 n1 k1 v rv => by
    cases x with
    | int j =>
      cases rv
      simp only at k1
      split at k1
      · rename_i h
        obtain ⟨h1, h2⟩ := okR_of h
        exact ⟨j, rfl, h1, h2, k1 G1 H1 (Nx.refl n1.abs) _ j_rng⟩
      · exact False.elim k1
    | _ => exact False.elim k1⟩
theorem ri_r2 {tg : Expr} (hg' : Gl X "range") (hm' : X.mg "range" = none) (ha : RE D W X a m1) (hb' : RE D W X b m2) (hst : starEach [a, b] X.env = [(false, eval a X.env), (false, eval b X.env)] := by rfl) (hst2 : starEach [b] X.env = [(false, eval b X.env)] := by rfl) :
    RI D W X tg (.Call (.Name "range" p) [a, b] [] p2) (itR2 m1 m2) :=
  (pi_range2 hg' hm' (pa_cons ha (pa_cons hb' pa_nil hst2) (by rw [hst2]; exact hst)) hst hst2).imp fun σ H R ⟨G, ρ, A, k⟩ => ⟨G, ρ, A, (Kg.bind k).mono fun x ρ1 G1 H1 n1 k1 v rv => ⟨G1, ρ1, n1.abs, (Kg.bind k1).mono fun y ρ2 G2 H2 n2 k2 w rw' => by
    cases x with
    | int i =>
      cases rv
      cases y with
      | int j =>
        cases rw'
        simp only at k2
        split at k2
        · rename_i h
          rw [Bool.and_eq_true] at h
          obtain ⟨h1, h2⟩ := okR_of h.1
          obtain ⟨h3, h4⟩ := okR_of h.2
          exact ⟨i, j, rfl, ⟨h1, h2, h3, h4⟩, k2 G2 H2 (Nx.refl n2.abs) _ j_rng⟩
        · exact False.elim k2
      | _ => exact False.elim k2
    | _ => exact False.elim k2⟩⟩

/-! ### for -/
def frL (tg : Tg) (body : SM) : List PV → SM
  | [] => fun ρ => .nxt ρ
  | x :: xs => fun ρ => match tg x ρ with
    | some ρ1 => loopK (frL tg body xs) (body ρ1)
    | none => .stuck
def frM (m : EM (List PV)) (tg : Tg) (body : SM) : SM := fun ρ => (m ρ).to fun xs ρ => frL tg body xs ρ
theorem frM_le {g : TG} {tg : Tg} {vs : List Nat} (tk : TgX D g tg vs) {mi : EM (List PV)} (E : Ends) (σ : St) (H : Hp) (h : tS D W (frM mi tg sb') E σ H) : tFor (tI D W mi) g (tS D W sb') E σ H := by
  obtain ⟨G, ρ, A, k⟩ := h
  refine ⟨G, ρ, A, (Ks.to k).mono fun xs ρ1 G1 H1 n1 k1 J jok => ?_⟩
  refine ⟨fun i m σ H => m = xs.length - i ∧ i ≤ xs.length ∧ tG D W G1 (frL tg sb' (xs.drop i)) E σ H, ⟨_, rfl, Nat.zero_le _, G1, ρ1, fun _ _ h => h, n1.abs, k1⟩, ?_⟩
  rintro i m σ H ⟨rfl, hi, G2, ρ2, g0, A2, k2⟩
  by_cases hlt : i < xs.length
  · obtain ⟨go, yl⟩ := (jok G2 H g0 A2.le i).1 hlt
    refine .inr ⟨go, tG D W G1 (frL tg sb' (xs.drop (i + 1))) E, fun σ' H' h' => ⟨xs.length - (i + 1), by omega, rfl, hlt, h'⟩, fun v H' y => ?_⟩
    obtain ⟨G3, x, ex, gr, rx⟩ := yl v H' y
    have n3 := A2.grow gr
    rw [List.drop_eq_getElem_cons hlt] at k2
    have ee := List.getElem?_eq_getElem hlt
    have hx : xs[i] = x := by rw [ex] at ee; exact (Option.some.inj ee).symm
    rw [hx] at k2
    have k3 : Ks D W (match tg x ρ2 with
      | some ρ1 => loopK (frL tg sb' (xs.drop (i + 1))) (sb' ρ1)
      | none => .stuck) G2 H σ ρ2 E := k2
    cases q : tg x ρ2 with
    | none => rw [q] at k3; exact False.elim k3
    | some ρ3 =>
      rw [q] at k3
      refine tk G3 H' σ ρ2 x v ρ3 _ n3.abs rx q fun σ' l' s' n4 => ?_
      refine ⟨G3, ρ3, n4.abs, ?_⟩
      exact Ks.loop (fun a u h => n4.g a u (n3.g a u (g0 a u h))) (Ks.from (n3.trans n4) k3)
  · refine .inl ⟨(jok G2 H g0 A2.le i).2 (by omega), ?_⟩
    rw [List.drop_eq_nil_of_le (by omega)] at k2
    exact k2 G2 H σ (Nx.refl A2)
theorem s_fr {tgt iter : Expr} {g : TG} {tg : Tg} {vs : List Nat} {mi : EM (List PV)} (hp : PassesOwn (model X.prog X.w) X.A X.env X.xe) (hc : X.calm = true) (hi : RI D W X tgt iter mi) (hg : PG X tgt g) (tk : TgX D g tg vs) (hb : RSs D W X body sb')
    (hs : ∀ x, foldedSetIterable iter X.env x = pure x := by intro _; rfl) : RS D W X (.For tgt iter body [] pos) (frM mi tg sb') :=
  (ps_for hp hc hi hg hb hs).imp (frM_le tk)
/-- target = e, the target of any form -/
def setT (m : EM PV) (tg : Tg) : SM := fun ρ => (m ρ).to fun x ρ => match tg x ρ with
  | some ρ1 => .nxt ρ1
  | none => .stuck
theorem s_setT {tgt : Expr} {g : TG} {tg : Tg} {vs : List Nat} (he : RE D W X e m) (hg : PG X tgt g) (tk : TgX D g tg vs) (hs : swapsWithSole [tgt] e pos.line X.env = pure false := by rfl) (hw : swappedStores [tgt] e X.env = pure none := by rfl)
    (h1 : (assignEach [tgt] X.env).map (·.2) = [assign tgt X.env] := by rfl) : RS D W X (.Assign [tgt] e pos) (setT m tg) :=
  (ps_asg he hg hs hw h1).imp fun E σ H ⟨G, ρ, A, k⟩ => ⟨G, ρ, A, (Ks.to k).mono fun x ρ1 G1 H1 n1 k1 v rv => by
    cases q : tg x ρ1 with
    | none => rw [q] at k1; exact False.elim k1
    | some ρ2 =>
      rw [q] at k1
      exact tk G1 H1 σ ρ1 x v ρ2 _ n1.abs rv q fun σ' l' s' n2 => k1 G1 H1 σ' n2⟩
end
end TR

set_option Elab.async false
set_option linter.all false
set_option maxRecDepth 100000
/-! TRL: list comprehensions. -/
namespace TR
open PySem PySem.Spec L2
set_option autoImplicit false
def saveOk (ρ : Ev) (vs : List Nat) : Bool := vs.all fun i => match ρ[i]? with
  | some (.own _ _) => false
  | _ => true
def wipeE (ρ : Ev) : List Nat → Ev
  | [] => ρ
  | v :: vs => (wipeE ρ vs).set v .non
def restE (ρ0 : Ev) : List Nat → Ev → Ev
  | [], ρ => ρ
  | v :: vs, ρ => (restE ρ0 vs ρ).set v (ρ0.getD v .non)
def noX {α : Type} (o : Out α) : Out α := match o with
  | .exc _ _ => .stuck
  | o => o
def cmpL (vs : List Nat) (tg : Tg) (t : EM Bool) (e : EM PV) : List PV → List PV → EM (List PV)
  | [], acc => fun ρ => .ok acc ρ
  | x :: xs, acc => fun ρ => match tg x (wipeE ρ vs) with
    | some ρ1 => (noX (t ρ1)).bind fun b ρ2 => match b with
      | true => (noX (e ρ2)).bind fun y ρ3 => if acc.length < sizeLine then cmpL vs tg t e xs (acc ++ [y]) (restE ρ vs ρ3) else .stuck
      | false => cmpL vs tg t e xs acc (restE ρ vs ρ2)
    | none => .stuck
def cmpM (vs : List Nat) (mi : EM (List PV)) (tg : Tg) (t : EM Bool) (e : EM PV) : EM MO := fun ρ => (mi ρ).bind fun xs ρ => if saveOk ρ vs then (cmpL vs tg t e xs [] ρ).bind fun ys ρ => .ok (.lst ys) ρ else .stuck
section
variable {D : Wd} {G H G1 H1 G' H' : Hp} {σ σ2 : St} {ρ ρ1 ρ4 : Ev}
theorem saveOk_get {vs : List Nat} (h : saveOk ρ vs = true) {i : Nat} (hi : i ∈ vs) {b : Bool} {m : MO} : ρ[i]? ≠ some (.own b m) := fun e => by
  have := List.all_eq_true.mp h i hi
  rw [e] at this
  cases this
theorem wipeE_len : ∀ {vs : List Nat}, (wipeE ρ vs).length = ρ.length
  | [] => rfl
  | v :: vs => by unfold wipeE; rw [List.length_set, wipeE_len]
theorem wipeE_out {i : Nat} : ∀ {vs : List Nat}, i ∉ vs → (wipeE ρ vs)[i]? = ρ[i]?
  | [], _ => rfl
  | v :: vs, h => by
    unfold wipeE
    rw [List.getElem?_set_ne (by rintro rfl; exact h List.mem_cons_self)]
    exact wipeE_out fun z => h (List.mem_cons_of_mem _ z)
theorem wipeE_in {i : Nat} {s : Slot} : ∀ {vs : List Nat}, i ∈ vs → (wipeE ρ vs)[i]? = some s → s = .non
  | [], h, _ => by cases h
  | v :: vs, h, e => by
    unfold wipeE at e
    by_cases q : i = v
    · subst q
      by_cases hl : i < (wipeE ρ vs).length
      · rw [List.getElem?_set_self hl] at e; cases e; rfl
      · rw [List.getElem?_eq_none (by simpa using hl)] at e; cases e
    · rw [List.getElem?_set_ne (Ne.symm q)] at e
      rcases List.mem_cons.mp h with z | z
      · exact absurd z q
      · exact wipeE_in z e
theorem restE_len {ρ0 : Ev} : ∀ {vs : List Nat}, (restE ρ0 vs ρ).length = ρ.length
  | [] => rfl
  | v :: vs => by unfold restE; rw [List.length_set, restE_len]
theorem restE_out {ρ0 : Ev} {i : Nat} : ∀ {vs : List Nat}, i ∉ vs → (restE ρ0 vs ρ)[i]? = ρ[i]?
  | [], _ => rfl
  | v :: vs, h => by
    unfold restE
    rw [List.getElem?_set_ne (by rintro rfl; exact h List.mem_cons_self)]
    exact restE_out fun z => h (List.mem_cons_of_mem _ z)
theorem restE_in {ρ0 : Ev} {i : Nat} {s : Slot} : ∀ {vs : List Nat}, i ∈ vs → (restE ρ0 vs ρ)[i]? = some s → s = ρ0.getD i .non
  | [], h, _ => by cases h
  | v :: vs, h, e => by
    unfold restE at e
    by_cases q : i = v
    · subst q
      by_cases hl : i < (restE ρ0 vs ρ).length
      · rw [List.getElem?_set_self hl] at e; cases e; rfl
      · rw [List.getElem?_eq_none (by simpa using hl)] at e; cases e
    · rw [List.getElem?_set_ne (Ne.symm q)] at e
      rcases List.mem_cons.mp h with z | z
      · exact absurd z q
      · exact restE_in z e
theorem wipe_same {vs : List Nat} {σ' : St} (l : σ'.length = σ.length) (h : ∀ i, i ∉ vs → σ'[i]? = σ[i]?) : wipe σ' vs = wipe σ vs := by
  refine List.ext_getElem? fun i => ?_
  by_cases hi : i ∈ vs
  · have aux : ∀ (vs : List Nat) (τ : St), i ∈ vs → (wipe τ vs)[i]? = if i < τ.length then some none else none := by
      intro vs
      induction vs with
      | nil => intro τ h; cases h
      | cons v vs ih =>
        intro τ h
        unfold wipe
        by_cases q : i = v
        · subst q
          by_cases hl : i < τ.length
          · rw [List.getElem?_set_self (by rw [wipe_length]; exact hl), if_pos hl]
          · rw [List.getElem?_eq_none (by rw [List.length_set, wipe_length]; omega), if_neg hl]
        · rw [List.getElem?_set_ne (Ne.symm q)]
          rcases List.mem_cons.mp h with z | z
          · exact absurd z q
          · exact ih τ z
    rw [aux vs σ' hi, aux vs σ hi, l]
  · rw [wipe_out hi, wipe_out hi, h i hi]
theorem abs_wipe {vs : List Nat} (A : Abs D G H σ ρ) : Abs D G H (wipe σ vs) (wipeE ρ vs) := by
  have own : ∀ (i : Nat) (b : Bool) (m : MO), (wipeE ρ vs)[i]? = some (.own b m) → i ∉ vs ∧ ρ[i]? = some (.own b m) := fun i b m h => by
    by_cases hi : i ∈ vs
    · cases wipeE_in hi h
    · rw [wipeE_out hi] at h; exact ⟨hi, h⟩
  refine ⟨A.le, by rw [wipe_length, wipeE_len]; exact A.len, fun i s h => ?_, fun i j b m b' m' a h1 h2 h3 h4 => ?_⟩
  · by_cases hi : i ∈ vs
    · rw [wipeE_in hi h]; trivial
    · rw [wipeE_out hi] at h
      rw [wipe_out hi]
      exact A.sl i s h
  · obtain ⟨n1, e1⟩ := own i b m h1
    obtain ⟨n2, e2⟩ := own j b' m' h2
    rw [wipe_out n1] at h3
    rw [wipe_out n2] at h4
    exact A.inj i j b m b' m' a e1 e2 h3 h4
/-- a block's step, seen from the frame around it -/
theorem nx_blk {vs : List Nat} (A : Abs D G H σ ρ) (sv : saveOk ρ vs = true) (n : Nx D G H (wipe σ vs) (wipeE ρ vs) G' H' σ2 ρ4) (l : σ2.length = σ.length) (h2 : ∀ i, i ∉ vs → σ2[i]? = σ[i]?) : Nx D G H σ ρ G' H' σ (restE ρ vs ρ4) := by
  have ln : ρ4.length = ρ.length := by rw [← n.abs.len, l, A.len]
  have own : ∀ (i : Nat) (b : Bool) (m : MO), (restE ρ vs ρ4)[i]? = some (.own b m) → i ∉ vs ∧ ρ4[i]? = some (.own b m) := fun i b m h => by
    by_cases hi : i ∈ vs
    · exfalso
      have q := restE_in hi h
      have hl : i < ρ.length := by rw [← ln, ← restE_len (ρ0 := ρ) (vs := vs)]; exact (List.getElem?_eq_some_iff.mp h).1
      refine saveOk_get sv hi (b := b) (m := m) ?_
      rw [List.getD_eq_getElem?_getD] at q
      rw [List.getElem?_eq_getElem hl] at q ⊢
      rw [q]
      rfl
    · rw [restE_out hi] at h; exact ⟨hi, h⟩
  have ow : ∀ {a : Addr}, Ow (wipe σ vs) (wipeE ρ vs) a → Ow σ ρ a := fun {a} ⟨i, b, m, h, f⟩ => by
    by_cases hi : i ∈ vs
    · cases wipeE_in hi h
    · rw [wipeE_out hi] at h
      rw [wipe_out hi] at f
      exact ⟨i, b, m, h, f⟩
  have owF : ∀ {a : Addr}, OwF (wipe σ vs) (wipeE ρ vs) a → OwF σ ρ a := fun {a} ⟨i, m, h, f⟩ => by
    by_cases hi : i ∈ vs
    · cases wipeE_in hi h
    · rw [wipeE_out hi] at h
      rw [wipe_out hi] at f
      exact ⟨i, m, h, f⟩
  refine ⟨⟨n.abs.le, by rw [restE_len, ln]; exact A.len, fun i s h => ?_, fun i j b m b' m' a h1 h2' h3 h4 => ?_⟩, n.g, fun a o h no => n.k a o h fun w => no (ow w), n.d, fun a u h => ?_, fun a h => ?_, fun i m h => ?_, fun i m h => ?_⟩
  · by_cases hi : i ∈ vs
    · have q := restE_in hi h
      have hl : i < ρ.length := by rw [← ln, ← restE_len (ρ0 := ρ) (vs := vs)]; exact (List.getElem?_eq_some_iff.mp h).1
      have e : ρ[i]? = some s := by
        rw [List.getD_eq_getElem?_getD] at q
        rw [List.getElem?_eq_getElem hl] at q ⊢
        rw [q]
        rfl
      have z := A.sl i s e
      cases s with
      | non => trivial
      | val x => obtain ⟨v, e1, r⟩ := z; exact ⟨v, e1, r.mono n.leg⟩
      | exn x => obtain ⟨a, c, d, e0, e1, e2⟩ := z; exact ⟨a, c, d, e0, e1, e2.mono n.leg⟩
      | own b m => exact absurd e (saveOk_get sv hi)
    · rw [restE_out hi] at h
      rw [← h2 i hi]
      exact n.abs.sl i s h
  · obtain ⟨n1, e1⟩ := own i b m h1
    obtain ⟨n2, e2⟩ := own j b' m' h2'
    rw [← h2 i n1] at h3
    rw [← h2 j n2] at h4
    exact n.abs.inj i j b m b' m' a e1 e2 h3 h4
  · rcases n.f a u h with h | h | h
    · exact .inl h
    · exact .inr (.inl h)
    · exact .inr (.inr (owF h))
  · obtain ⟨i, b, m, h1, h3⟩ := h
    obtain ⟨n1, e1⟩ := own i b m h1
    rw [← h2 i n1] at h3
    rcases n.w a ⟨i, b, m, e1, h3⟩ with z | z
    · exact .inl (ow z)
    · exact .inr z
  · have hi : i ∉ vs := fun z => saveOk_get sv z h
    obtain ⟨⟨m', e'⟩, _⟩ := n.br i m (by rw [wipeE_out hi]; exact h)
    exact ⟨⟨m', by rw [restE_out hi]; exact e'⟩, rfl⟩
  · obtain ⟨hi, e1⟩ := own i true m h
    obtain ⟨m', e'⟩ := n.nb i m e1
    rw [wipeE_out hi] at e'
    exact ⟨m', e'⟩
/-- an object that is neither frozen nor own is new or changed -/
theorem nx_new {a : Addr} {o : HO} (n : Nx D G H σ ρ G1 H1 σ2 ρ1) (ha : H a = none) (ga : G1 a = none) (no : ¬ Ow σ2 ρ1 a) : Nx D G H σ ρ G1 (upd H1 a o) σ2 ρ1 := by
  refine ⟨⟨fun b u h => ?_, n.abs.len, fun i s h => ?_, n.abs.inj⟩, n.g, fun b u h no' => ?_, fun b h => ?_, n.f, n.w, n.br, n.nb⟩
  · have hb : b ≠ a := by
      rintro rfl
      rw [ga] at h; cases h
    exact (upd_ne hb).trans (n.abs.le b u h)
  · have q := n.abs.sl i s h
    cases s with
    | non => trivial
    | val x => exact q
    | exn x => exact q
    | own b m =>
      obtain ⟨c, e, g, r⟩ := q
      refine ⟨c, e, g, r.mono (LeG.refl _) (upd_ne ?_)⟩
      rintro rfl
      exact no ⟨i, b, m, h, e⟩
  · have hb : b ≠ a := by rintro rfl; rw [ha] at h; cases h
    rw [upd_ne hb]
    exact n.k b u h no'
  · by_cases hb : b = a
    · rw [hb]; exact ha
    · rw [upd_ne hb] at h; exact n.d b h
end
section
variable {D : Wd} {W : WX} {X : Cx} {elt tgt iter e : Expr} {ifs : List Expr} {scope : Scope} {own : List (Str × Nat)} {pos : Pos} {g : TG} {tg : Tg} {t : EM Bool} {m : EM PV} {mi : EM (List PV)}
theorem Kg.noX {α β : Type} {o : Out α} {k : α → Ev → Out β} {G H : Hp} {σ : St} {ρ : Ev} {P : α → Ev → Hp → Hp → Prop} {z : Out β} (e : (noX o).bind k = z) (hz : z ≠ .stuck) (h : ∀ x ρ', o = .ok x ρ' → k x ρ' = z → ∀ G' H', Nx D G H σ ρ G' H' σ ρ' → P x ρ' G' H') : Kg D W0 o G H σ ρ P := by
  cases o with
  | ok x ρ' => exact h x ρ' rfl e
  | exc ex ρ' => exact absurd e.symm hz
  | stuck => exact absurd e.symm hz
theorem cmp_le {vs : List Nat} (tk : TgX D g tg vs) (σ : St) (H : Hp) (Q : VK) (h : tN D W (cmpM vs mi tg t m) σ H Q) : tLc (tI D W mi) g (tB D W0 t) (tE D W0 m) vs σ H Q := by
  obtain ⟨G, ρ, A, k⟩ := h
  have k' : Kg D W ((mi ρ).bind fun xs ρ => if saveOk ρ vs then (cmpL vs tg t m xs [] ρ).bind fun ys ρ => (.ok (.lst ys) ρ : Out MO) else .stuck) G H σ ρ fun mo ρ' G' H' => ∀ a, G' a = none → H a = none → MRep D G' H' a mo → ¬ Ow σ ρ' a → Q (.ref a) H' := k
  refine ⟨G, ρ, A, (Kg.bind k').mono fun xs ρ1 G1 H1 n1 k1 J jok => ?_⟩
  intro Da hDa
  by_cases sv : saveOk ρ1 vs = true
  · rw [if_pos sv] at k1
    -- the whole list's outcome
    obtain ⟨z, hz⟩ : ∃ z, cmpL vs tg t m xs [] ρ1 = z := ⟨_, rfl⟩
    rw [hz] at k1
    have zs : z ≠ .stuck := by rintro rfl; exact k1
    have gD : G1 Da = none := by
      cases q : G1 Da with
      | none => rfl
      | some u =>
        have e := n1.abs.le Da u q
        rw [hDa] at e; cases e
    have oD : ¬ Ow σ ρ1 Da := fun w => by
      obtain ⟨⟨o, ho⟩, _⟩ := n1.abs.ow_some w
      rw [hDa] at ho; cases ho
    have n0 : Nx D G1 H1 σ ρ1 G1 (upd H1 Da (.lst [])) σ ρ1 := nx_new (Nx.refl n1.abs) hDa gD oD
    refine ⟨fun i me H => me = xs.length - i ∧ i ≤ xs.length ∧ ∃ G2 ρ2 acc ws, Nx D G1 H1 σ ρ1 G2 H σ ρ2 ∧ saveOk ρ2 vs = true ∧ G2 Da = none ∧ ¬ Ow σ ρ2 Da ∧ H Da = some (.lst ws) ∧ Reps D G2 acc ws ∧ cmpL vs tg t m (xs.drop i) acc ρ2 = z,
      ⟨_, rfl, Nat.zero_le _, G1, ρ1, [], [], n0, sv, gD, oD, upd_same, rfl, hz⟩, ?_⟩
    rintro i me H ⟨rfl, hi, G2, ρ2, acc, ws, n2, sv2, gD2, oD2, hD2, rs2, e2⟩
    by_cases hlt : i < xs.length
    · obtain ⟨go, yl⟩ := (jok G2 H n2.g n2.abs.le i).1 hlt
      refine .inr ⟨go, fun H => i + 1 ≤ xs.length ∧ ∃ G2 ρ2 acc ws, Nx D G1 H1 σ ρ1 G2 H σ ρ2 ∧ saveOk ρ2 vs = true ∧ G2 Da = none ∧ ¬ Ow σ ρ2 Da ∧ H Da = some (.lst ws) ∧ Reps D G2 acc ws ∧ cmpL vs tg t m (xs.drop (i + 1)) acc ρ2 = z,
        fun H' h' => ⟨xs.length - (i + 1), by omega, rfl, h'⟩, fun v H' y => ?_⟩
      obtain ⟨G3, x, ex, gr, rx⟩ := yl v H' y
      have n3 := n2.abs.grow gr
      have hx : xs[i] = x := by
        have ee := List.getElem?_eq_getElem hlt
        rw [ex] at ee
        exact (Option.some.inj ee).symm
      rw [List.drop_eq_getElem_cons hlt, hx] at e2
      have e3 : (match tg x (wipeE ρ2 vs) with
        | some ρ1 => (noX (t ρ1)).bind fun b ρ4 => match b with
          | true => (noX (m ρ4)).bind fun y ρ3 => if acc.length < sizeLine then cmpL vs tg t m (xs.drop (i + 1)) (acc ++ [y]) (restE ρ2 vs ρ3) else .stuck
          | false => cmpL vs tg t m (xs.drop (i + 1)) acc (restE ρ2 vs ρ4)
        | none => .stuck) = z := e2
      cases q : tg x (wipeE ρ2 vs) with
      | none => rw [q] at e3; exact absurd e3.symm zs
      | some ρ5 =>
        rw [q] at e3
        have Aw : Abs D G3 H' (wipe σ vs) (wipeE ρ2 vs) := abs_wipe n3.abs
        refine tk G3 H' (wipe σ vs) (wipeE ρ2 vs) x v ρ5 _ Aw rx q fun σ6 l6 s6 n6 => ?_
        have l6' : σ6.length = σ.length := by rw [l6, wipe_length]
        have s6' : ∀ j, j ∉ vs → σ6[j]? = σ[j]? := fun j hj => (s6 j hj).trans (wipe_out hj)
        refine ⟨wipe_same l6' s6', G3, ρ5, n6.abs, Kg.noX e3 zs fun b ρ7 eb e7 G7 H7 n7 => ?_⟩
        -- what stands behind the block's step
        have fin : ∀ {ρ8 : Ev} {G8 H8 : Hp}, Nx D G3 H' (wipe σ vs) (wipeE ρ2 vs) G8 H8 σ6 ρ8 → Nx D G1 H1 σ ρ1 G8 H8 σ (restE ρ2 vs ρ8) ∧ saveOk (restE ρ2 vs ρ8) vs = true ∧ G8 Da = none ∧ ¬ Ow σ (restE ρ2 vs ρ8) Da ∧ H8 Da = some (.lst ws) := fun {ρ8 G8 H8} n8 => by
          have nb := nx_blk n3.abs sv2 n8 l6' s6'
          have na := n3.trans nb
          have hl : (restE ρ2 vs ρ8).length = ρ2.length := by rw [← na.abs.len, n2.abs.len]
          refine ⟨n2.trans na, ?_, ?_, ?_, ?_⟩
          · unfold saveOk
            rw [List.all_eq_true]
            intro j hj
            cases ej : (restE ρ2 vs ρ8)[j]? with
            | none => rfl
            | some s =>
              have q2 := restE_in hj ej
              have hjl : j < ρ2.length := by rw [← hl]; exact (List.getElem?_eq_some_iff.mp ej).1
              have q3 : ρ2[j]? = some s := by
                rw [List.getD_eq_getElem?_getD] at q2
                rw [List.getElem?_eq_getElem hjl] at q2 ⊢
                rw [q2]
                rfl
              cases s with
              | own b m => exact absurd q3 (saveOk_get sv2 hj)
              | _ => rfl
          · cases qg : G8 Da with
            | none => rfl
            | some u =>
              rcases na.f Da u qg with w | w | w
              · rw [gD2] at w; cases w
              · rw [hD2] at w; cases w
              · exact absurd w.ow oD2
          · intro w
            rcases na.w Da w with w | w
            · exact oD2 w
            · rw [hD2] at w; cases w
          · exact na.k Da _ hD2 oD2
        cases b with
        | false =>
          refine Eq.mpr (if_neg Bool.false_ne_true) ?_
          obtain ⟨f1, f2, f3, f4, f5⟩ := fin (n6.trans n7)
          exact ⟨hlt, G7, _, acc, ws, f1, f2, f3, f4, f5, rs2.mono (n3.leg.trans (n6.trans n7).leg), e7⟩
        | true =>
          refine Eq.mpr (if_pos rfl) ?_
          refine ⟨G7, ρ7, n7.abs, Kg.noX e7 zs fun y8 ρ8 e8 e9 G8 H8 n8 w rw' => ?_⟩
          have n9 := (n6.trans n7).trans n8
          obtain ⟨f1, f2, f3, f4, f5⟩ := fin n9
          have rs8 : Reps D G8 acc ws := rs2.mono (n3.leg.trans n9.leg)
          by_cases hz8 : acc.length < sizeLine
          · rw [if_pos hz8] at e9
            refine ⟨ws, f5, by rw [rs8.length]; exact hz8, hlt, G8, _, acc ++ [y8], ws ++ [w], nx_new f1 hDa f3 f4, f2, f3, f4, upd_same, rs8.append (Reps.one rw'), e9⟩
          · rw [if_neg hz8] at e9
            exact absurd e9.symm zs
    · refine .inl ⟨(jok G2 H n2.g n2.abs.le i).2 (by omega), ?_⟩
      rw [List.drop_eq_nil_of_le (by omega)] at e2
      have e3 : (.ok acc ρ2 : Out (List PV)) = z := e2
      subst e3
      exact k1 G2 H n2 Da gD2 (n1.d Da hDa) ⟨ws, hD2, rs2⟩ oD2
  · rw [if_neg sv] at k1
    exact False.elim k1
theorem rn_lc (hc : X.calm = true) (hN : X.N.Nodup) (ok : BlkOk X.N X.env.scope scope own) (tk : TgX D g tg (own.map (·.2))) (hi : RI D W X tgt iter mi)
    (hg : ∀ (s : Shared) (H : Hp) (C : Addr) (cl : List (Str × Addr)) (fp : List Addr), PG (X.blk s H scope (compEnvC scope cl C X.env) fp) tgt g)
    (ht : ∀ (s : Shared) (H : Hp) (C : Addr) (cl : List (Str × Addr)) (fp : List Addr), PTs (X.blk s H scope (compEnvC scope cl C X.env) fp) ifs (tB D W0 t))
    (he : ∀ (s : Shared) (H : Hp) (C : Addr) (cl : List (Str × Addr)) (fp : List Addr), RE D W0 (X.blk s H scope (compEnvC scope cl C X.env) fp) elt m) (hs : ∀ x, foldedSetIterable iter X.env x = pure x := by intro _; rfl) :
    RN D W X (.ListComp elt [⟨tgt, iter, ifs, 0⟩] scope pos) (cmpM (own.map (·.2)) mi tg t m) := (pe_lc hc hN hi ok hg ht he hs).imp (cmp_le tk)
theorem s_setLc {i : Nat} {y : Str} {py spos : Pos} (hc : X.calm = true) (hN : X.N.Nodup) (hy : X.N[i]? = some y) (hyl : X.env.scope.names.lookup y = some .local)
    (hsw : swapsWith (.ListComp elt [⟨tgt, iter, ifs, 0⟩] scope pos) (some (.Name y py)) spos.line X.env = pure true) (ok : BlkOk X.N X.env.scope scope own) (tk : TgX D g tg (own.map (·.2))) (hi : RI D W X tgt iter mi)
    (hg : ∀ (s : Shared) (H : Hp) (C : Addr) (cl : List (Str × Addr)) (fp : List Addr), PG (X.blk s H scope (compEnvC scope cl C X.env) fp) tgt g)
    (ht : ∀ (s : Shared) (H : Hp) (C : Addr) (cl : List (Str × Addr)) (fp : List Addr), PTs (X.blk s H scope (compEnvC scope cl C X.env) fp) ifs (tB D W0 t))
    (he : ∀ (s : Shared) (H : Hp) (C : Addr) (cl : List (Str × Addr)) (fp : List Addr), RE D W0 (X.blk s H scope (compEnvC scope cl C X.env) fp) elt m) (hs : ∀ x, foldedSetIterable iter X.env x = pure x := by intro _; rfl) :
    RS D W X (.Assign [.Name y py] (.ListComp elt [⟨tgt, iter, ifs, 0⟩] scope pos) spos) (setO i (cmpM (own.map (·.2)) mi tg t m)) :=
  (ps_setLc hc hN hy hyl hsw hi ok hg ht he hs).imp fun E σ H ⟨G, ρ, A, k⟩ => by
    refine cmp_le (W := W) tk σ H _ ⟨G, ρ, A, ?_⟩
    unfold setO at k
    revert k
    cases cmpM (own.map (·.2)) mi tg t m ρ with
    | stuck => exact fun k => k
    | exc e ρ' => exact fun k G' H' c d n er => k G' H' σ c d n er
    | ok mo ρ' =>
      intro k G' H' n ad g ha r no
      rw [Out.to_ok] at k
      unfold putO at k
      split at k
      · rename_i h
        exact k G' H' _ (nx_putO n g ha r no (mayPut_no h))
      · exact False.elim k
def noT : EM Bool := fun ρ => .ok true ρ
theorem pts_no : PTs X [] (tB D W noT) := ⟨fun pins s σ H Q I ⟨G, ρ, A, k⟩ => pts_nil.run pins s σ H Q I (k G H (Nx.refl A))⟩
theorem pts_t (h : RB D W X e t) : PTs X [e] (tB D W t) := pts_one h
end
end TR

set_option Elab.async false
set_option linter.all false
set_option maxRecDepth 100000
/-! TRM: built-in calls. -/
namespace TR
open PySem PySem.Spec L2
set_option autoImplicit false
section
variable {D : Wd} {W : WX} {X : Cx} {a b c e o ix : Expr} {es : List Expr} {pos p2 p p3 p4 : Pos} {m m1 m2 : EM PV} {ms : EM (List AV)}

/-! ### isinstance -/
inductive Ty where
  | bool | int | str | list | tuple | dict
deriving DecidableEq
def Ty.nm : Ty → String
  | .bool => "bool" | .int => "int" | .str => "str" | .list => "list" | .tuple => "tuple" | .dict => "dict"
def isTy : PV → Ty → Bool
  | .non, _ => false
  | .bl _, .bool => true
  | .bl _, .int => true
  | .bl _, _ => false
  | .int _, .int => true
  | .int _, _ => false
  | .str _, .str => true
  | .str _, _ => false
  | .lst _, .list => true
  | .lst _, _ => false
  | .tup _, .tuple => true
  | .tup _, _ => false
  | .dct _, .dict => true
  | .dct _, _ => false
  | .obj _ _, _ => false
/-- what isinstance asks of an own class -/
structure IsC (K : PySem.W.Frag) (C : Addr) : Prop where
  cl : Cls K C
  ha : PySem.W.findIn K (.ref C) "__class__" = some (some (.builtin "object.__class__"))
  hn : PySem.W.specialIn K (.builtin "object.__class__") "__get__" = some (some (.builtin "getset_descriptor.__get__"))
  htk : PySem.W.takesIn K (.builtin "object.__class__") = some true
  hm : PySem.W.mroIn K C (.type "object") = some true
structure IsF (K : PySem.W.Frag) (C : Addr) : Prop extends IsC K C where
  k : ∀ T : Ty, PySem.W.kitOne K (.ref C) (.type T.nm) = some false
def IsAll (D : Wd) : Prop := ∀ c C, D.T c C → IsF D.K C
theorem isall_no {K : PySem.W.Frag} : IsAll ⟨K, fun _ _ => False, fun _ _ => False, none⟩ := fun _ _ h => h.elim
theorem tyx_lst {G H : Hp} {ad : Addr} {vs : List V} (h : SqL D.K H ad vs) : TyX D.K H (.ref ad) (.type "list") := by
  rcases h with (h | ⟨o, h⟩) | ⟨o, its, n, hk, hc, _⟩
  · exact .base (.lst h)
  · exact .base (.frz h)
  · exact .kList hk hc
theorem tyx_tup {G H : Hp} {ad : Addr} {vs : List V} (h : SqT D.K H ad vs) : TyX D.K H (.ref ad) (.type "tuple") := by
  rcases h with (h | ⟨o, h⟩) | ⟨o, its, n, hk, hc, _⟩
  · exact .base (.tup h)
  · exact .fTuple h
  · exact .kTuple hk hc
/-- a value's type, as the library's rules ask it -/
theorem kb_non : ∀ T : Ty, kitB "NoneType" T.nm = some (isTy .non T) := fun T => by cases T <;> decide +kernel
theorem kb_bl : ∀ (k : Bool) (T : Ty), kitB "bool" T.nm = some (isTy (.bl k) T) := fun k T => by cases k <;> cases T <;> decide +kernel
theorem kb_int : ∀ (k : Int) (T : Ty), kitB "int" T.nm = some (isTy (.int k) T) := fun k T => (by cases T <;> decide +kernel : kitB "int" T.nm = some (isTy (.int 0) T)).trans (by cases T <;> rfl)
theorem kb_str : ∀ (k : Str) (T : Ty), kitB "str" T.nm = some (isTy (.str k) T) := fun k T => (by cases T <;> decide +kernel : kitB "str" T.nm = some (isTy (.str ⟨#[]⟩) T)).trans (by cases T <;> rfl)
theorem kb_lst : ∀ (k : List PV) (T : Ty), kitB "list" T.nm = some (isTy (.lst k) T) := fun k T => (by cases T <;> decide +kernel : kitB "list" T.nm = some (isTy (.lst []) T)).trans (by cases T <;> rfl)
theorem kb_tup : ∀ (k : List PV) (T : Ty), kitB "tuple" T.nm = some (isTy (.tup k) T) := fun k T => (by cases T <;> decide +kernel : kitB "tuple" T.nm = some (isTy (.tup []) T)).trans (by cases T <;> rfl)
theorem kb_dct : ∀ (k : List (Key × PV)) (T : Ty), kitB "dict" T.nm = some (isTy (.dct k) T) := fun k T => (by cases T <;> decide +kernel : kitB "dict" T.nm = some (isTy (.dct []) T)).trans (by cases T <;> rfl)
theorem ty_of (hT : IsAll D) {G H : Hp} (le : LeG G H) {x : PV} {v : V} (r : RepH D G H x v) : ∃ t : Value, TyX D.K H v t ∧ (∀ T : Ty, PySem.W.kitOne D.K t (.type T.nm) = some (isTy x T)) ∧ ∀ c fs, x = .obj c fs → ∃ C, t = .ref C ∧ D.T c C := by
  cases x with
  | non => cases r; exact ⟨_, .base .non, fun T => kit_ty (kb_non T), fun _ _ e => nomatch e⟩
  | bl k => cases r; exact ⟨_, .base (.bl k), fun T => kit_ty (kb_bl k T), fun _ _ e => nomatch e⟩
  | int k => cases r; exact ⟨_, .base (.int k), fun T => kit_ty (kb_int k T), fun _ _ e => nomatch e⟩
  | str k => cases r; exact ⟨_, .base (.str k), fun T => kit_ty (kb_str k T), fun _ _ e => nomatch e⟩
  | lst xs =>
    obtain ⟨ad, vs, rfl, h, _⟩ := r
    exact ⟨_, tyx_lst (G := G) h, fun T => kit_ty (kb_lst xs T), fun _ _ e => nomatch e⟩
  | tup xs =>
    obtain ⟨ad, vs, rfl, h, _⟩ := r
    exact ⟨_, tyx_tup (G := G) (sqT_mono le h), fun T => kit_ty (kb_tup xs T), fun _ _ e => nomatch e⟩
  | dct xs =>
    obtain ⟨ad, vs, rfl, h, _⟩ := r
    refine ⟨.type "dict", ?_, fun T => kit_ty (kb_dct xs T), fun _ _ e => nomatch e⟩
    exact .base (.dK h)
  | obj c fs =>
    obtain ⟨ad, C, dx, ws, rfl, h, t, _⟩ := r
    have F := hT c C t
    exact ⟨.ref C, .base (.ins h F.cl F.ha F.hn F.htk F.hm), fun T => F.k T, fun c' fs' e => by cases e; exact ⟨C, rfl, t⟩⟩
def isM (m : EM PV) (T : Ty) : EM PV := fun ρ => (m ρ).bind fun x ρ => .ok (.bl (isTy x T)) ρ
theorem re_isi (hT : IsAll D) (T : Ty) {x : Str} (hK : D.K = X.K) (he : RP D W X e m) (hg : Gl X "isinstance") (hm : X.mg "isinstance" = none) (hg2 : Gl X x) (hm2 : X.mg x = none) (hv2 : bootBuiltins x = some (.type T.nm))
    (hn2 : x ≠ "__name__" := by decide) (hd2 : (x == ("__debug__" : Str)) = false := by decide)
    (hs : starEach [e, .Name x p3] X.env = (false, eval e X.env) :: starEach [.Name x p3] X.env := by rfl) (hs2 : starEach [.Name x p3] X.env = (false, eval (.Name x p3) X.env) :: starEach [] X.env := by rfl) (hpl : (backTo p2 (starEach [.Name x p3] X.env)).any (·.1) = false := by rfl) :
    RE D W X (.Call (.Name "isinstance" p) [e, .Name x p3] [] p2) (isM m T) :=
  (pe_callB call_isi hg hm PyProof.Rows.boot_isinstance (pa_cons he (pa_cons (pe_bltn hg2 hm2 hv2 (show RelV (.ty T.nm) (.type T.nm) from rfl) hn2 hd2) pa_nil hs2) hs) (by decide) (by decide) hs hpl).imp fun σ H Q ⟨G, ρ, A, k⟩ =>
    ⟨G, ρ, A, (Kg.bind k).mono fun x ρ1 G1 H1 n1 k1 v rv => by
      obtain ⟨t, ty, f, _⟩ := ty_of hT n1.abs.le rv
      exact ⟨v, .ty T.nm, t, .type T.nm, _, rfl, .ty _, hK ▸ ty, hK ▸ f T, k1 G1 H1 (Nx.refl n1.abs) _ rfl⟩⟩

/-! ### len, int, bool, list, max, min -/
def bLen : List PV → Option PV
  | [.lst xs] => some (.int xs.length)
  | [.tup xs] => some (.int xs.length)
  | [.str s] => if s.length ≤ sizeLine then some (.int s.length) else none
  | _ => none
theorem one_h {G H : Hp} {x : PV} {vs : List V} (r : RepHs D G H [x] vs) : ∃ v, vs = [v] ∧ RepH D G H x v := by
  obtain ⟨v, ws, rfl, r1, r2⟩ := r
  rw [show ws = [] from r2]
  exact ⟨v, rfl, r1⟩
theorem two_h {G H : Hp} {x y : PV} {vs : List V} (r : RepHs D G H [x, y] vs) : ∃ v w, vs = [v, w] ∧ RepH D G H x v ∧ RepH D G H y w := by
  obtain ⟨v, ws, rfl, r1, r2⟩ := r
  obtain ⟨w, rfl, r3⟩ := one_h r2
  exact ⟨v, w, rfl, r1, r3⟩
theorem sn_len (hK : D.K = X.K) : SnC D (fun xs H Q => ∃ x n, xs = [x] ∧ LenV X.K x H n ∧ Q (.int n) H) bLen := by
  intro G H xs z vs Q le r e q
  unfold bLen at e
  split at e
  · cases e
    obtain ⟨v, rfl, ad, ws, rfl, s, rs⟩ := one_h r
    exact ⟨_, ws.length, rfl, .inl ⟨ws, hK ▸ s, rfl⟩, by rw [rs.length]; exact q G H _ (Grow.refl le) rfl⟩
  · cases e
    obtain ⟨v, rfl, ad, ws, rfl, s, rs⟩ := one_h r
    exact ⟨_, ws.length, rfl, .inr ⟨ws, hK ▸ sqT_mono le s, rfl⟩, by rw [rs.length]; exact q G H _ (Grow.refl le) rfl⟩
  · split at e
    · rename_i hz
      cases e
      obtain ⟨v, rfl, r1⟩ := one_h r
      cases r1
      exact ⟨_, _, rfl, ⟨hz, rfl⟩, q G H _ (Grow.refl le) rfl⟩
    · cases e
  · cases e
theorem re_len (hK : D.K = X.K) (hg : Gl X "len") (hm : X.mg "len" = none) (ha : RA D W X (e :: es) ms)
    (he : starEach (e :: es) X.env = (false, eval e X.env) :: starEach es X.env := by rfl) (hpl : (backTo p2 (starEach es X.env)).any (·.1) = false := by rfl) : RE D W X (.Call (.Name "len" p) (e :: es) [] p2) (callB bLen ms) :=
  re_callB call_len (sn_len hK) hg hm PySem.boot_len ha (by decide) (by decide) he hpl
def bInt : List PV → Option PV
  | [.int i] => some (.int i)
  | [.bl k] => some (.int (if k then 1 else 0))
  | _ => none
theorem sn_int : SnC D (fun xs H Q => (∃ i, xs = [.int i] ∧ Q (.int i) H) ∨ ∃ k, xs = [.bl k] ∧ Q (.int (if k then 1 else 0)) H) bInt := by
  intro G H xs z vs Q le r e q
  unfold bInt at e
  split at e
  · cases e
    obtain ⟨v, rfl, r1⟩ := one_h r
    cases r1
    exact .inl ⟨_, rfl, q G H _ (Grow.refl le) rfl⟩
  · cases e
    obtain ⟨v, rfl, r1⟩ := one_h r
    cases r1
    exact .inr ⟨_, rfl, q G H _ (Grow.refl le) rfl⟩
  · cases e
def bBool : List PV → Option PV
  | [.int i] => some (.bl (i != 0))
  | [.bl k] => some (.bl k)
  | _ => none
theorem sn_bool : SnC D (fun xs H Q => (∃ i, xs = [.int i] ∧ Q (.bl (i != 0)) H) ∨ ∃ k, xs = [.bl k] ∧ Q (.bl k) H) bBool := by
  intro G H xs z vs Q le r e q
  unfold bBool at e
  split at e
  · cases e
    obtain ⟨v, rfl, r1⟩ := one_h r
    cases r1
    exact .inl ⟨_, rfl, q G H _ (Grow.refl le) rfl⟩
  · cases e
    obtain ⟨v, rfl, r1⟩ := one_h r
    cases r1
    exact .inr ⟨_, rfl, q G H _ (Grow.refl le) rfl⟩
  · cases e
def bMax : List PV → Option PV
  | [.int i, .int j] => some (.int (if j > i then j else i))
  | _ => none
def bMin : List PV → Option PV
  | [.int i, .int j] => some (.int (if j < i then j else i))
  | _ => none
theorem sn_max : SnC D (fun xs H Q => ∃ i j, xs = [.int i, .int j] ∧ Q (.int (if j > i then j else i)) H) bMax := by
  intro G H xs z vs Q le r e q
  unfold bMax at e
  split at e
  · cases e
    obtain ⟨v, w, rfl, r1, r2⟩ := two_h r
    cases r1; cases r2
    exact ⟨_, _, rfl, q G H _ (Grow.refl le) rfl⟩
  · cases e
theorem sn_min : SnC D (fun xs H Q => ∃ i j, xs = [.int i, .int j] ∧ Q (.int (if j < i then j else i)) H) bMin := by
  intro G H xs z vs Q le r e q
  unfold bMin at e
  split at e
  · cases e
    obtain ⟨v, w, rfl, r1, r2⟩ := two_h r
    cases r1; cases r2
    exact ⟨_, _, rfl, q G H _ (Grow.refl le) rfl⟩
  · cases e
section
variable (he : starEach (e :: es) X.env = (false, eval e X.env) :: starEach es X.env := by rfl) (hpl : (backTo p2 (starEach es X.env)).any (·.1) = false := by rfl)
include he hpl
theorem re_int1 (hg : Gl X "int") (hm : X.mg "int" = none) (ha : RA D W X (e :: es) ms) : RE D W X (.Call (.Name "int" p) (e :: es) [] p2) (callB bInt ms) :=
  re_callTy call_int1 sn_int hg hm PyProof.Rows.boot_int ha (by decide) (by decide) he hpl
theorem re_bool1 (hg : Gl X "bool") (hm : X.mg "bool" = none) (ha : RA D W X (e :: es) ms) : RE D W X (.Call (.Name "bool" p) (e :: es) [] p2) (callB bBool ms) :=
  re_callTy call_bool1 sn_bool hg hm PyProof.Rows.boot_bool ha (by decide) (by decide) he hpl
theorem re_max2 (hc : X.calm = true) (hg : Gl X "max") (hm : X.mg "max" = none) (ha : RA D W X (e :: es) ms) : RE D W X (.Call (.Name "max" p) (e :: es) [] p2) (callB bMax ms) :=
  re_callB (call_max2 hc) sn_max hg hm PyProof.Rows.boot_max ha (by decide) (by decide) he hpl
theorem re_min2 (hc : X.calm = true) (hg : Gl X "min") (hm : X.mg "min" = none) (ha : RA D W X (e :: es) ms) : RE D W X (.Call (.Name "min" p) (e :: es) [] p2) (callB bMin ms) :=
  re_callB (call_min2 hc) sn_min hg hm PyProof.Rows.boot_min ha (by decide) (by decide) he hpl
end
/-- list(e): a new list of the items -/
def listM (m : EM PV) : EM MO := fun ρ => (m ρ).bind fun x ρ => match x with
  | .lst xs => .ok (.lst xs) ρ
  | .tup xs => .ok (.lst xs) ρ
  | _ => .stuck
theorem new_own {G H G1 H1 : Hp} {σ : St} {ρ ρ1 : Ev} {mo : MO} {o : HO} {Q : VK} {l : Addr} (n : Nx D G H σ ρ G1 H1 σ ρ1) (hl : H1 l = none) (r : MRep D G1 (upd H1 l o) l mo)
    (k : ∀ G' H', Nx D G H σ ρ G' H' σ ρ1 → ∀ a, G' a = none → H a = none → MRep D G' H' a mo → ¬ Ow σ ρ1 a → Q (.ref a) H') : Q (.ref l) (upd H1 l o) := by
  have gp : G1 l = none := by
    cases z : G1 l with
    | none => rfl
    | some u =>
      have z2 := n.abs.le l u z
      rw [hl] at z2; cases z2
  have no : ¬ Ow σ ρ1 l := fun w => by
    obtain ⟨⟨o, ho⟩, _⟩ := n.abs.ow_some w
    rw [hl] at ho; cases ho
  exact k G1 _ (n.trans (n.abs.grow (Grow.newH n.abs.le hl))) l gp (n.d l hl) r no
theorem Kg.bindO {α : Type} {o : Out α} {f : α → Ev → Out MO} {G H : Hp} {σ : St} {ρ : Ev} {P : MO → Ev → Hp → Hp → Prop} (h : Kg D W (o.bind f) G H σ ρ P) :
    Kg D W o G H σ ρ fun x ρ1 G1 H1 => Nx D G H σ ρ G1 H1 σ ρ1 → ∀ mo ρ2, f x ρ1 = .ok mo ρ2 → ∀ G' H', Nx D G H σ ρ G' H' σ ρ2 → P mo ρ2 G' H' := by
  cases o with
  | stuck => exact h
  | exc e ρ' => exact h
  | ok x ρ1 =>
    intro G1 H1 n n' mo ρ2 e G' H' n2
    have h' : Kg D W (f x ρ1) G H σ ρ P := h
    rw [e] at h'
    exact h' G' H' n2
theorem rn_list (hK : D.K = X.K) (h : RP D W X e m) (hg : Gl X "list") (hm : X.mg "list" = none) (he : starEach [e] X.env = (false, eval e X.env) :: starEach [] X.env := by rfl) (hpl : (backTo p2 (starEach [] X.env)).any (·.1) = false := by rfl) :
    RN D W X (.Call (.Name "list" p) [e] [] p2) (listM m) :=
  (pe_callTy call_list_of hg hm PyProof.Rows.boot_list (pa_cons h pa_nil he) (by decide) (by decide) he hpl).imp fun σ H Q ⟨G, ρ, A, k⟩ => ⟨G, ρ, A, by
    unfold listM at k
    cases q : m ρ with
    | stuck => rw [q] at k; exact k
    | exc ex ρ' => rw [q] at k; exact k
    | ok x ρ1 =>
      rw [q] at k
      simp only [Out.bind_ok] at k
      intro G1 H1 n v rv
      cases x with
      | lst xs =>
        obtain ⟨ad, vs, rfl, s, rs⟩ := rv
        exact ⟨ad, vs, rfl, .inl (hK ▸ s), fun l hl => new_own (mo := .lst xs) n hl ⟨vs, upd_same, rs⟩ k⟩
      | tup xs =>
        obtain ⟨ad, vs, rfl, s, rs⟩ := rv
        exact ⟨ad, vs, rfl, .inr (hK ▸ sqT_mono n.abs.le s), fun l hl => new_own (mo := .lst xs) n hl ⟨vs, upd_same, rs⟩ k⟩
      | _ => exact False.elim k⟩

/-! ### methods of texts -/
def SnS (D : Wd) (r : V → List V → Hp → VK → Prop) (g : Str → List PV → Option PV) : Prop := ∀ (G H : Hp) (a : Str) (xs : List PV) (z : PV) (vs : List V) (Q : VK), LeG G H → RepHs D G H xs vs → g a xs = some z →
  (∀ G' H' v', Grow G H G' H' → Rep D G' z v' → Q v' H') → r (.str a) vs H Q
def strM (g : Str → List PV → Option PV) (mo : EM PV) (ms : EM (List AV)) : EM PV := fun ρ => (mo ρ).bind fun x ρ => match x with
  | .str a => (ms ρ).bind fun as ρ => (lift (derefs as ρ) ρ).bind fun xs ρ => lift (g a xs) ρ
  | _ => .stuck
theorem re_sm {apos : Pos} {name : Str} {id : String} {mo : EM PV} {r : V → List V → Hp → VK → Prop} {g : Str → List PV → Option PV} (slot : PySem.Slot "str" name id) (hty : typeOf (.builtin id) = pure (.type "method_descriptor")) (hm : MtR X id r) (sn : SnS D r g)
    (ho : RE D W X o mo) (ha : RA D W X (e :: es) ms) (hbase : attributeBase o name X.env (eval o X.env) = eval o X.env := by rfl)
    (hfew : ((backTo pos (starEach (e :: es) X.env)).all (fun x => !x.1) && (backToKw pos (keywordEach [] X.env)).all (fun x => x.1.isSome)
      && decide ((e :: es).length + ([] : List Keyword).length + (if ([] : List Keyword).isEmpty then 0 else 1) < 30)) = true := by rfl)
    (hline : (apos.endLine == pos.line) = true := by rfl) (hs : starEach (e :: es) X.env = (false, eval e X.env) :: starEach es X.env := by rfl) (hplain : (backTo pos (starEach es X.env)).any (·.1) = false := by rfl) :
    RE D W X (.Call (.Attribute o name apos) (e :: es) [] pos) (strM g mo ms) :=
  (pe_bm PySem.F.plainAttrs_str slot hty hm ho ha hbase hfew hline hs hplain).imp fun σ H Q ⟨G, ρ, A, k⟩ => ⟨G, ρ, A, (Kg.bind k).mono fun x ρ1 G1 H1 n1 k1 v rv => by
    cases x with
    | str a =>
      cases rv
      refine ⟨rfl, G1, ρ1, n1.abs, (Kg.bind k1).mono fun as ρ2 G2 H2 n2 k2 vs rv2 => ?_⟩
      obtain ⟨xs, e1, f⟩ := Kg.lift n2.abs (Kg.bind k2)
      obtain ⟨z, e2, f2⟩ := Kg.lift n2.abs (f G2 H2 (Grow.refl n2.abs.le))
      exact sn G2 H2 a xs z vs Q n2.abs.le (derefs_rep n2.abs rv2 e1) e2 fun G' H' v' g' r' => f2 G' H' g' v' r'
    | _ => exact False.elim k1⟩
def strsOf : List PV → Option (List Str)
  | [] => some []
  | .str s :: r => (strsOf r).map (s :: ·)
  | _ :: _ => none
theorem strs_rep {G : Hp} : ∀ {xs : List PV} {ss : List Str} {vs : List V}, strsOf xs = some ss → Reps D G xs vs → vs = ss.map V.str
  | [], _, _, e, r => by cases e; exact r
  | .str s :: xs, _, _, e, r => by
    rw [strsOf] at e
    cases q : strsOf xs with
    | none => rw [q] at e; cases e
    | some ss =>
      rw [q] at e; cases e
      obtain ⟨v, ws, rfl, r1, r2⟩ := r
      cases r1
      rw [strs_rep q r2]
      rfl
  | .non :: _, _, _, e, _ => by cases e
  | .bl _ :: _, _, _, e, _ => by cases e
  | .int _ :: _, _, _, e, _ => by cases e
  | .lst _ :: _, _, _, e, _ => by cases e
  | .tup _ :: _, _, _, e, _ => by cases e
  | .dct _ :: _, _, _, e, _ => by cases e
  | .obj _ _ :: _, _, _, e, _ => by cases e
def joinOk (a : Str) (ss : List Str) : Bool := decide ((ss.map (·.length)).sum + ss.length * a.length ≤ 16777216)
def sJoin (a : Str) : List PV → Option PV
  | [.lst xs] => (strsOf xs).bind fun ss => if joinOk a ss then some (.str (Txt.join a ss)) else none
  | [.tup xs] => (strsOf xs).bind fun ss => if joinOk a ss then some (.str (Txt.join a ss)) else none
  | _ => none
theorem sn_join (hK : D.K = X.K) : SnS D (fun x xs H Q => ∃ a p, ∃ ys : List Str, x = .str a ∧ xs = [.ref p] ∧ (SqL X.K H p (ys.map V.str) ∨ SqT X.K H p (ys.map V.str)) ∧
    (ys.map (·.length)).sum + ys.length * a.length ≤ 16777216 ∧ Q (.str (Txt.join a ys)) H) sJoin := by
  intro G H a xs z vs Q le r e q
  unfold sJoin at e
  split at e
  · obtain ⟨v, rfl, ad, ws, rfl, s, rs⟩ := one_h r
    rename_i ys
    cases h : strsOf ys with
    | none => rw [h] at e; cases e
    | some ss =>
      rw [h] at e
      simp only [Option.bind_some] at e
      split at e
      · rename_i hz
        cases e
        have := strs_rep h rs
        subst this
        exact ⟨a, ad, ss, rfl, rfl, .inl (hK ▸ s), of_decide_eq_true hz, q G H _ (Grow.refl le) rfl⟩
      · cases e
  · obtain ⟨v, rfl, ad, ws, rfl, s, rs⟩ := one_h r
    rename_i ys
    cases h : strsOf ys with
    | none => rw [h] at e; cases e
    | some ss =>
      rw [h] at e
      simp only [Option.bind_some] at e
      split at e
      · rename_i hz
        cases e
        have := strs_rep h rs
        subst this
        exact ⟨a, ad, ss, rfl, rfl, .inr (hK ▸ sqT_mono le s), of_decide_eq_true hz, q G H _ (Grow.refl le) rfl⟩
      · cases e
  · cases e
def sStarts (a : Str) : List PV → Option PV
  | [.str b] => some (.bl (Txt.startswith a b))
  | _ => none
theorem sn_starts : SnS D (fun x xs H Q => ∃ a b, x = .str a ∧ xs = [.str b] ∧ Q (.bl (Txt.startswith a b)) H) sStarts := by
  intro G H a xs z vs Q le r e q
  unfold sStarts at e
  split at e
  · cases e
    obtain ⟨v, rfl, r1⟩ := one_h r
    cases r1
    exact ⟨a, _, rfl, rfl, q G H _ (Grow.refl le) rfl⟩
  · cases e
end
end TR

set_option Elab.async false
set_option linter.all false
set_option maxRecDepth 100000
/-! TRN: defs by name, as the generator's text uses them. -/
namespace TR
open PySem PySem.Spec L2
set_option autoImplicit false
theorem hu65 {k : Nat} {A : Around} (hr : Room k A) : A.units + 65 < cLine := by have := hr.un; omega
theorem hu1 {k : Nat} {A : Around} (hr : Room k A) : A.units + 1 < cLine := by have := hr.un; omega
/-- the def of that text stands under that name -/
structure DefAt (K : PySem.W.Frag) (mg : Str → Option Value) (x : Str) (st : Stmt) (ps : List Str) : Prop where
  ex : ∃ (f : Addr) (fd : FuncData), mg x = some (.ref f) ∧ Fun K x x st f fd ∧ Binds K fd ps []
/-- the def under that name keeps to its pure meaning -/
structure FnAt (P : Program) (w : World) (K : PySem.W.Frag) (mg : Str → Option Value) (base : Heap) (D : Wd) (k : Nat) (x : Str) (ps : List Str) (fm : FM) : Prop where
  ex : ∃ (f : Addr) (fd : FuncData), mg x = some (.ref f) ∧ PySem.W.keepIn K (.ref f) = true ∧ Binds K fd ps [] ∧ FnOk P w K mg base (L2.CX P w) k f fd ps (FSp D fm) ∧ ∃ (oc : Value) (od : Option Addr) (sl : Array (Option Value)), K.lookup f = some ⟨oc, od, .func fd, sl⟩
section
variable {P : Program} {w : World} {K : PySem.W.Frag} {mg : Str → Option Value} {base : Heap} {D : Wd}
theorem fn_at {x : Str} {st : Stmt} {N ps : List Str} {k n : Nat} {body : SM} (d : DefAt K mg x st ps) (S : FnScope N ps (defScope st)) (hn : ps.length = n) (hN : n ≤ N.length)
    (hb : ∀ {f : Addr} (cdv : Value) (A : Around) (outer : List Env) (s : Shared) (H : Hp) (E : XK), Room k (A.deeper (PyProof.Rows.envOfC x (defScope st) s.heap.objs.size f cdv)) → Takes (cxB P w K mg base N x (defScope st) f cdv A outer s H E) (fun c d _ H => E c d H) → RSs D (fun c d _ H => E c d H) (cxB P w K mg base N x (defScope st) f cdv A outer s H E) (defBody st) body) :
    FnAt P w K mg base D (k + 1) x ps (fnB n N.length body) := by
  obtain ⟨f, fd, h1, h2, h3⟩ := d.ex
  refine ⟨f, fd, h1, h2.kp, h3, fn_ok h2 S hn hN fun cdv A outer s H E hr => hb cdv A outer s H E hr (takes_of rfl rfl rfl rfl), ?_⟩
  obtain ⟨oc, od, kV, doc, pm, an, cdv, ct, osl, e, l, _⟩ := h2.ex
  exact ⟨oc, od, osl, l⟩
theorem takesB {N : List Str} {qual : Str} {scope : Scope} {f : Addr} {cdv : Value} {A : Around} {outer : List Env} {s : Shared} {H : Hp} {E : XK} : Takes (cxB P w K mg base N qual scope f cdv A outer s H E) (fun c d _ H => E c d H) := takes_of rfl rfl rfl rfl
end
section
variable {D : Wd} {W : WX} {X : Cx} {e : Expr} {es : List Expr} {pos p : Pos} {ms : EM (List AV)} {k : Nat} {ps : List Str} {fm : FM} {x : Str}
theorem re_callA (F : FnAt X.prog X.w X.K X.mg X.base D k x ps fm) (hr : Room k X.A) (tk : Takes X W) (ha : RA D W X (e :: es) ms) (hg : Gl X x := by rfl) (hdb : (x == ("__debug__" : Str)) = false := by decide)
    (he : starEach (e :: es) X.env = (false, eval e X.env) :: starEach es X.env := by rfl) (hpl : (backTo pos (starEach es X.env)).any (·.1) = false := by rfl) : RE D W X (.Call (.Name x p) (e :: es) [] pos) (callE fm ms) := by
  obtain ⟨f, fd, h1, h2, h3, h4, _⟩ := F.ex
  exact re_call h4 hr hg h1 h2 h3 tk ha hdb he hpl
theorem rn_callA (F : FnAt X.prog X.w X.K X.mg X.base D k x ps fm) (hr : Room k X.A) (tk : Takes X W) (ha : RA D W X (e :: es) ms) (hg : Gl X x := by rfl) (hdb : (x == ("__debug__" : Str)) = false := by decide)
    (he : starEach (e :: es) X.env = (false, eval e X.env) :: starEach es X.env := by rfl) (hpl : (backTo pos (starEach es X.env)).any (·.1) = false := by rfl) : RN D W X (.Call (.Name x p) (e :: es) [] pos) (callO fm ms) := by
  obtain ⟨f, fd, h1, h2, h3, h4, _⟩ := F.ex
  exact rn_call h4 hr hg h1 h2 h3 tk ha hdb he hpl
theorem re_callA0 (F : FnAt X.prog X.w X.K X.mg X.base D k x ps fm) (hr : Room k X.A) (tk : Takes X W) (hg : Gl X x := by rfl) (hdb : (x == ("__debug__" : Str)) = false := by decide) : RE D W X (.Call (.Name x p) [] [] pos) (callE fm argNil) := by
  obtain ⟨f, fd, h1, h2, h3, h4, _⟩ := F.ex
  exact re_call0 h4 hr hg h1 h2 h3 tk hdb
theorem rn_callA0 (F : FnAt X.prog X.w X.K X.mg X.base D k x ps fm) (hr : Room k X.A) (tk : Takes X W) (hg : Gl X x := by rfl) (hdb : (x == ("__debug__" : Str)) = false := by decide) : RN D W X (.Call (.Name x p) [] [] pos) (callO fm argNil) := by
  obtain ⟨f, fd, h1, h2, h3, h4, _⟩ := F.ex
  exact rn_call0 h4 hr hg h1 h2 h3 tk hdb
end
end TR

set_option Elab.async false
set_option linter.all false
set_option maxRecDepth 100000
/-! TRO: the law's own call. -/
namespace TR
open PySem PySem.Spec L2
set_option autoImplicit false
theorem reps_ints {D : Wd} {G : Hp} : ∀ ns : List Int, Reps D G (ns.map .int) (ns.map V.int)
  | [] => rfl
  | n :: ns => ⟨_, _, rfl, rfl, reps_ints ns⟩
theorem law_sp {D : Wd} {fm : FM} {H : Hp} {a : Addr} {ns : List Int} (hS : SqL D.K H a (ns.map V.int)) (h : ∃ r, fm [.val (.lst (ns.map .int))] = .ok (.v (.bl true)) r) : FSp D fm [.ref a] H (fun v _ => v = .bl true) fun _ _ _ => False := by
  obtain ⟨r, e⟩ := h
  refine ⟨H, [.val (.lst (ns.map .int))], rfl, ⟨LeG.refl H, rfl, fun i s h => ?_, fun i j b m b' m' c h1 h2 h3 h4 => ?_⟩, ?_⟩
  · cases i with
    | zero =>
      cases h
      exact ⟨_, rfl, a, _, rfl, hS, reps_ints ns⟩
    | succ i => simp at h
  · cases i with
    | zero => cases h1
    | succ i => simp at h1
  · rw [e]
    exact fun G' H' v n rr => rr
theorem cx_no {P : Program} {w : World} {H : Hp} {s : Shared} {e : Value} {s' : Shared} (h : L2.CX P w [] H s (fun _ _ _ => False) e s') : False := by
  obtain ⟨_, _, _, _, _, _, _, _, _, _, _, _, z⟩ := h
  exact z
theorem defAt_mk {K : PySem.W.Frag} {h : Heap} {mg : Str → Option Value} {x : Str} {st : Stmt} {ps : List Str} {f : Addr} {oc : Value} {od an : Option Addr} {osl : Array (Option Value)} {kV doc pm cdv ct : Value} (X : K.In h) (G : h.Ns mainGlobals mg)
    (a : PySem.W.nsIn K mainGlobals x = some (some (.ref f))) (l : K.lookup f = some ⟨oc, od, .func (PySem.W.fnOf x x (defArgs st) (defBody st) (defScope st) .none kV doc pm an cdv ct), osl⟩)
    (c : PySem.W.codeIn K cdv x = true) (k : PySem.W.keepIn K (.ref f) = true)
    (hb : ∀ (kV doc pm : Value) (an : Option Addr) (cdv ct : Value) (us : List Value), us.length = ps.length → bindArgs (PySem.W.fnOf x x (defArgs st) (defBody st) (defScope st) .none kV doc pm an cdv ct) ⟨us, []⟩ = pure (ps.zip us)) : DefAt K mg x st ps :=
  ⟨f, _, PySem.W.mg_of X G a, fun_mk l c k, (fun_mk l c k).binds hb⟩
theorem law_fn {P : Program} {w : World} {K : PySem.W.Frag} {mg : Str → Option Value} {fa : Addr} {D : Wd} {k : Nat} {x y : Str} {fm : FM} {st : Stmt} {oc : Value} {od an : Option Addr} {osl : Array (Option Value)} {kV doc pm cdv ct : Value} {h : Heap} (X : K.In h) (G : h.Ns mainGlobals mg) (hfa : mg x = some (.ref fa))
    {f : Addr} (a : PySem.W.nsIn K mainGlobals x = some (some (.ref f))) (l : K.lookup f = some ⟨oc, od, .func (PySem.W.fnOf x x (defArgs st) (defBody st) (defScope st) .none kV doc pm an cdv ct), osl⟩)
    (c : PySem.W.codeIn K cdv x = true) (kp : PySem.W.keepIn K (.ref f) = true)
    (hb : ∀ (s : Shared) (v : Value), BindsTo s (PySem.W.fnOf x x (defArgs st) (defBody st) (defScope st) .none kV doc pm an cdv ct) ⟨[v], []⟩ [(y, v)])
    (F : ∀ base : Heap, FnAt P w K mg base D k x [y] fm) :
    ∃ fd : FuncData, (∀ (s : Shared) (v : Value), BindsTo s fd ⟨[v], []⟩ [(y, v)]) ∧ ∀ base : Heap, K.In base → base.Ns mainGlobals mg → FnOk P w K mg base (L2.CX P w) k fa fd [y] (FSp D fm) := by
  have e := hfa.symm.trans (PySem.W.mg_of X G a)
  cases e
  refine ⟨_, hb, fun base _ _ => ?_⟩
  obtain ⟨f', fd', h1, _, _, h3, oc', od', sl', l2⟩ := (F base).ex
  have e2 := hfa.symm.trans h1
  cases e2
  rw [l] at l2
  cases l2
  exact h3
end TR

set_option Elab.async false
set_option linter.all false
set_option maxRecDepth 100000
/-! TRP: pure meanings are computed by simp. -/
namespace TR
open PySem PySem.Spec L2
set_option autoImplicit false
section
variable {α β : Type}
@[simp] theorem seq_nxt (ρ : Ev) (k : SM) : (SO.nxt ρ).seq k = k ρ := (rfl)
@[simp] theorem seq_ret (r : Ret) (ρ : Ev) (k : SM) : (SO.ret r ρ).seq k = .ret r ρ := (rfl)
@[simp] theorem seq_brk (ρ : Ev) (k : SM) : (SO.brk ρ).seq k = .brk ρ := (rfl)
@[simp] theorem seq_cnt (ρ : Ev) (k : SM) : (SO.cnt ρ).seq k = .cnt ρ := (rfl)
@[simp] theorem seq_exc (e : Ex) (ρ : Ev) (k : SM) : (SO.exc e ρ).seq k = .exc e ρ := (rfl)
@[simp] theorem seq_stuck (k : SM) : (SO.stuck).seq k = .stuck := (rfl)
@[simp] theorem loop_nxt (ρ : Ev) (k : SM) : loopK k (SO.nxt ρ) = k ρ := (rfl)
@[simp] theorem loop_ret (r : Ret) (ρ : Ev) (k : SM) : loopK k (SO.ret r ρ) = .ret r ρ := (rfl)
@[simp] theorem loop_brk (ρ : Ev) (k : SM) : loopK k (SO.brk ρ) = .nxt ρ := (rfl)
@[simp] theorem loop_cnt (ρ : Ev) (k : SM) : loopK k (SO.cnt ρ) = k ρ := (rfl)
@[simp] theorem loop_exc (e : Ex) (ρ : Ev) (k : SM) : loopK k (SO.exc e ρ) = .exc e ρ := (rfl)
@[simp] theorem loop_stuck (k : SM) : loopK k SO.stuck = .stuck := (rfl)
/-- a choice that waits for its flag -/
def br {γ : Type} (k : Bool) (a b : Ev → γ) (ρ : Ev) : γ := match k with
  | true => a ρ
  | false => b ρ
@[simp] theorem br_true {γ : Type} (a b : Ev → γ) (ρ : Ev) : br true a b ρ = a ρ := (rfl)
@[simp] theorem br_false {γ : Type} (a b : Ev → γ) (ρ : Ev) : br false a b ρ = b ρ := (rfl)
/-! statements -/
@[simp] theorem ev_seq (a b : SM) (ρ : Ev) : seqM a b ρ = (a ρ).seq b := (rfl)
@[simp] theorem ev_skip (ρ : Ev) : skipM ρ = .nxt ρ := (rfl)
@[simp] theorem ev_brk (ρ : Ev) : brkM ρ = .brk ρ := (rfl)
@[simp] theorem ev_cnt (ρ : Ev) : cntM ρ = .cnt ρ := (rfl)
def kE : PV → SM := fun _ ρ => .nxt ρ
@[simp] theorem kE_ (x : PV) (ρ : Ev) : kE x ρ = .nxt ρ := (rfl)
@[simp] theorem ev_expr (m : EM PV) (ρ : Ev) : exprM m ρ = (m ρ).to kE := (rfl)
def kR : PV → SM := fun x ρ => .ret (.v x) ρ
@[simp] theorem kR_ (x : PV) (ρ : Ev) : kR x ρ = .ret (.v x) ρ := (rfl)
@[simp] theorem ev_ret (m : EM PV) (ρ : Ev) : retM m ρ = (m ρ).to kR := (rfl)
def kRO : MO → SM := fun x ρ => .ret (.o x) ρ
@[simp] theorem kRO_ (x : MO) (ρ : Ev) : kRO x ρ = .ret (.o x) ρ := (rfl)
@[simp] theorem ev_retO (m : EM MO) (ρ : Ev) : retO m ρ = (m ρ).to kRO := (rfl)
@[simp] theorem ev_retN (ρ : Ev) : retN ρ = .ret (.v .non) ρ := (rfl)
def rtv : Option Slot → Ev → SO
  | some (.val x), ρ => .ret (.v x) ρ
  | some (.own false m), ρ => .ret (.o m) ρ
  | _, _ => .stuck
@[simp] theorem rtv_val (x : PV) (ρ : Ev) : rtv (some (.val x)) ρ = .ret (.v x) ρ := (rfl)
@[simp] theorem rtv_own (m : MO) (ρ : Ev) : rtv (some (.own false m)) ρ = .ret (.o m) ρ := (rfl)
@[simp] theorem ev_retV (i : Nat) (ρ : Ev) : retV i ρ = rtv ρ[i]? ρ := by
  unfold retV rtv
  split <;> simp_all
def kIf {γ : Type} (a b : Ev → γ) : Bool → Ev → γ := fun k ρ => br k a b ρ
@[simp] theorem kIf_ {γ : Type} (a b : Ev → γ) (k : Bool) (ρ : Ev) : kIf a b k ρ = br k a b ρ := (rfl)
@[simp] theorem ev_if (t : EM Bool) (a b : SM) (ρ : Ev) : ifM t a b ρ = (t ρ).to (kIf a b) := by
  unfold ifM
  cases t ρ with
  | ok k ρ => cases k <;> rfl
  | _ => rfl
def mp : Option Slot → Bool
  | some (.own true _) => false
  | _ => true
@[simp] theorem mp_val (x : PV) : mp (some (.val x)) = true := (rfl)
@[simp] theorem mp_non : mp (some .non) = true := (rfl)
@[simp] theorem mp_own (m : MO) : mp (some (.own false m)) = true := (rfl)
@[simp] theorem ev_may (ρ : Ev) (i : Nat) : mayPut ρ i = mp ρ[i]? := by
  unfold mayPut mp
  split <;> simp_all
@[simp] theorem ev_putV (i : Nat) (x : PV) (ρ : Ev) : putV i x ρ = if mp ρ[i]? = true then .nxt (ρ.set i (.val x)) else .stuck := by unfold putV; rw [ev_may]
@[simp] theorem ev_putO (i : Nat) (x : MO) (ρ : Ev) : putO i x ρ = if mp ρ[i]? = true then .nxt (ρ.set i (.own false x)) else .stuck := by unfold putO; rw [ev_may]
@[simp] theorem ev_tgN (i : Nat) (x : PV) (ρ : Ev) : tgN i x ρ = if mp ρ[i]? = true then some (ρ.set i (.val x)) else none := by unfold tgN; rw [ev_may]
@[simp] theorem ev_set (i : Nat) (m : EM PV) (ρ : Ev) : setM i m ρ = (m ρ).to (putV i) := (rfl)
@[simp] theorem ev_setO (i : Nat) (m : EM MO) (ρ : Ev) : setO i m ρ = (m ρ).to (putO i) := (rfl)
def stx (i : Nat) (k x : PV) : Option Slot → Ev → SO
  | some (.own b m), ρ => (match storeQ m k x with
    | some m' => .nxt (ρ.set i (.own b m'))
    | none => .stuck)
  | _, _ => .stuck
def stq (i : Nat) (b : Bool) : Option MO → Ev → SO
  | some m', ρ => .nxt (ρ.set i (.own b m'))
  | none, _ => .stuck
@[simp] theorem stq_some (i : Nat) (b : Bool) (m : MO) (ρ : Ev) : stq i b (some m) ρ = .nxt (ρ.set i (.own b m)) := (rfl)
@[simp] theorem stx_own (i : Nat) (k x : PV) (b : Bool) (m : MO) (ρ : Ev) : stx i k x (some (.own b m)) ρ = stq i b (storeQ m k x) ρ := by
  show (match storeQ m k x with
    | some m' => SO.nxt (ρ.set i (.own b m'))
    | none => .stuck) = _
  cases storeQ m k x <;> rfl
def kS3 (i : Nat) (x : PV) : PV → SM := fun k ρ => stx i k x ρ[i]? ρ
def kS2 (i : Nat) (mi : EM PV) (x : PV) : PV → SM := fun _ ρ => (mi ρ).to (kS3 i x)
def kS1 (i : Nat) (mi : EM PV) : PV → SM := fun x ρ => (peek i ρ).to (kS2 i mi x)
@[simp] theorem kS3_ (i : Nat) (x k : PV) (ρ : Ev) : kS3 i x k ρ = stx i k x ρ[i]? ρ := (rfl)
@[simp] theorem kS2_ (i : Nat) (mi : EM PV) (x y : PV) (ρ : Ev) : kS2 i mi x y ρ = (mi ρ).to (kS3 i x) := (rfl)
@[simp] theorem kS1_ (i : Nat) (mi : EM PV) (x : PV) (ρ : Ev) : kS1 i mi x ρ = (peek i ρ).to (kS2 i mi x) := (rfl)
@[simp] theorem ev_setIx (i : Nat) (mi mv : EM PV) (ρ : Ev) : setIx i mi mv ρ = (mv ρ).to (kS1 i mi) := by
  unfold setIx kS1 kS2 kS3
  congr 1
  funext x ρ
  congr 1
  funext _ ρ
  congr 1
  funext k ρ
  unfold stx
  cases ρ[i]? with
  | none => rfl
  | some s => cases s <;> rfl
/-! expressions -/
@[simp] theorem ev_cst (x : PV) (ρ : Ev) : cst x ρ = .ok x ρ := (rfl)
def pk : Option Slot → Ev → Out PV
  | some (.val x), ρ => .ok x ρ
  | some (.own _ m), ρ => .ok m.pv ρ
  | _, _ => .stuck
@[simp] theorem pk_val (x : PV) (ρ : Ev) : pk (some (.val x)) ρ = .ok x ρ := (rfl)
@[simp] theorem pk_own (b : Bool) (m : MO) (ρ : Ev) : pk (some (.own b m)) ρ = .ok m.pv ρ := (rfl)
@[simp] theorem ev_peek (i : Nat) (ρ : Ev) : peek i ρ = pk ρ[i]? ρ := by
  unfold peek pk
  cases ρ[i]? with
  | none => rfl
  | some s => cases s <;> rfl
def gv (i : Nat) : Option Slot → Ev → Out PV
  | some (.val x), ρ => .ok x ρ
  | some (.own false m), ρ => .ok m.pv (ρ.set i (.val m.pv))
  | _, _ => .stuck
@[simp] theorem gv_val (i : Nat) (x : PV) (ρ : Ev) : gv i (some (.val x)) ρ = .ok x ρ := (rfl)
@[simp] theorem gv_own (i : Nat) (m : MO) (ρ : Ev) : gv i (some (.own false m)) ρ = .ok m.pv (ρ.set i (.val m.pv)) := (rfl)
@[simp] theorem ev_getv (i : Nat) (ρ : Ev) : getv i ρ = gv i ρ[i]? ρ := by
  unfold getv gv
  split <;> simp_all
@[simp] theorem mo_lst (xs : List PV) : (MO.lst xs).pv = .lst xs := (rfl)
@[simp] theorem mo_obj (c : Nat) (fs : List (Str × PV)) : (MO.obj c fs).pv = .obj c fs := (rfl)
@[simp] theorem mo_dct (xs : List (Key × PV)) : (MO.dct xs).pv = .dct xs := (rfl)
def kB2 (g : PV → PV → Option PV) (x : PV) : PV → Ev → Out PV := fun y ρ => lift (g x y) ρ
def kB1 (g : PV → PV → Option PV) (b : EM PV) : PV → Ev → Out PV := fun x ρ => (b ρ).bind (kB2 g x)
@[simp] theorem kB2_ (g : PV → PV → Option PV) (x y : PV) (ρ : Ev) : kB2 g x y ρ = lift (g x y) ρ := (rfl)
@[simp] theorem kB1_ (g : PV → PV → Option PV) (b : EM PV) (x : PV) (ρ : Ev) : kB1 g b x ρ = (b ρ).bind (kB2 g x) := (rfl)
@[simp] theorem ev_bin (g : PV → PV → Option PV) (a b : EM PV) (ρ : Ev) : TR.bin g a b ρ = (a ρ).bind (kB1 g b) := (rfl)
def kN3 (g : PV → PV → Option PV) (y : PV) : PV → Ev → Out PV := fun x ρ => lift (g x y) ρ
def kN2 (g : PV → PV → Option PV) (i : Nat) : PV → Ev → Out PV := fun y ρ => (peek i ρ).bind (kN3 g y)
def kN1 (g : PV → PV → Option PV) (i : Nat) (b : EM PV) : PV → Ev → Out PV := fun _ ρ => (b ρ).bind (kN2 g i)
@[simp] theorem kN3_ (g : PV → PV → Option PV) (x y : PV) (ρ : Ev) : kN3 g y x ρ = lift (g x y) ρ := (rfl)
@[simp] theorem kN2_ (g : PV → PV → Option PV) (i : Nat) (y : PV) (ρ : Ev) : kN2 g i y ρ = (peek i ρ).bind (kN3 g y) := (rfl)
@[simp] theorem kN1_ (g : PV → PV → Option PV) (i : Nat) (b : EM PV) (x : PV) (ρ : Ev) : kN1 g i b x ρ = (b ρ).bind (kN2 g i) := (rfl)
@[simp] theorem ev_binN (g : PV → PV → Option PV) (i : Nat) (b : EM PV) (ρ : Ev) : binN g i b ρ = (peek i ρ).bind (kN1 g i b) := (rfl)
def kU (g : PV → Option PV) : PV → Ev → Out PV := fun x ρ => lift (g x) ρ
@[simp] theorem kU_ (g : PV → Option PV) (x : PV) (ρ : Ev) : kU g x ρ = lift (g x) ρ := (rfl)
@[simp] theorem ev_un (g : PV → Option PV) (a : EM PV) (ρ : Ev) : TR.un g a ρ = (a ρ).bind (kU g) := (rfl)
def fl : PV → Ev → Out Bool
  | .bl b, ρ => .ok b ρ
  | _, _ => .stuck
@[simp] theorem fl_bl (b : Bool) (ρ : Ev) : fl (.bl b) ρ = .ok b ρ := (rfl)
@[simp] theorem ev_asB (m : EM PV) (ρ : Ev) : asB m ρ = (m ρ).bind fl := by
  unfold asB
  cases m ρ with
  | ok x ρ => cases x <;> rfl
  | _ => rfl
def kT : PV → Ev → Out Bool := fun x ρ => lift (pyTruth x) ρ
@[simp] theorem kT_ (x : PV) (ρ : Ev) : kT x ρ = lift (pyTruth x) ρ := (rfl)
@[simp] theorem ev_truM (m : EM PV) (ρ : Ev) : truM m ρ = (m ρ).bind kT := (rfl)
def kNot : Bool → Ev → Out Bool := fun k ρ => .ok (!k) ρ
@[simp] theorem kNot_ (k : Bool) (ρ : Ev) : kNot k ρ = .ok (!k) ρ := (rfl)
@[simp] theorem ev_not (t : EM Bool) (ρ : Ev) : notM t ρ = (t ρ).bind kNot := (rfl)
def okB (b : Bool) : EM Bool := fun ρ => .ok b ρ
@[simp] theorem okB_ (b : Bool) (ρ : Ev) : okB b ρ = .ok b ρ := (rfl)
@[simp] theorem ev_and (t u : EM Bool) (ρ : Ev) : TR.andM t u ρ = (t ρ).bind (kIf u (okB false)) := by
  unfold TR.andM
  cases t ρ with
  | ok k ρ => cases k <;> rfl
  | _ => rfl
@[simp] theorem ev_or (t u : EM Bool) (ρ : Ev) : orM t u ρ = (t ρ).bind (kIf (okB true) u) := by
  unfold orM
  cases t ρ with
  | ok k ρ => cases k <;> rfl
  | _ => rfl
def stk {γ : Type} : EM γ := fun _ => .stuck
@[simp] theorem stk_ {γ : Type} (ρ : Ev) : (stk ρ : Out γ) = .stuck := (rfl)
def kA2 (b : EM PV) (x : PV) : EM PV := fun ρ => (lift (pyTruth x) ρ).bind (kIf b (cst x))
def kA1 (b : EM PV) : PV → Ev → Out PV := fun x ρ => br (noD x) (kA2 b x) stk ρ
@[simp] theorem kA2_ (b : EM PV) (x : PV) (ρ : Ev) : kA2 b x ρ = (lift (pyTruth x) ρ).bind (kIf b (cst x)) := (rfl)
@[simp] theorem kA1_ (b : EM PV) (x : PV) (ρ : Ev) : kA1 b x ρ = br (noD x) (kA2 b x) stk ρ := (rfl)
def kO2 (b : EM PV) (x : PV) : EM PV := fun ρ => (lift (pyTruth x) ρ).bind (kIf (cst x) b)
def kO1 (b : EM PV) : PV → Ev → Out PV := fun x ρ => br (noD x) (kO2 b x) stk ρ
@[simp] theorem kO2_ (b : EM PV) (x : PV) (ρ : Ev) : kO2 b x ρ = (lift (pyTruth x) ρ).bind (kIf (cst x) b) := (rfl)
@[simp] theorem kO1_ (b : EM PV) (x : PV) (ρ : Ev) : kO1 b x ρ = br (noD x) (kO2 b x) stk ρ := (rfl)
@[simp] theorem ev_andV (a b : EM PV) (ρ : Ev) : andV' a b ρ = (a ρ).bind (kA1 b) := by
  unfold andV' kA1 kA2 kIf cst
  cases a ρ with
  | ok x ρ =>
    simp only [Out.bind_ok]
    cases noD x with
    | false => rfl
    | true =>
      simp only [if_true, br_true]
      cases lift (pyTruth x) ρ with
      | ok k ρ => cases k <;> rfl
      | _ => rfl
  | _ => rfl
@[simp] theorem ev_orV (a b : EM PV) (ρ : Ev) : orV' a b ρ = (a ρ).bind (kO1 b) := by
  unfold orV' kO1 kO2 kIf cst
  cases a ρ with
  | ok x ρ =>
    simp only [Out.bind_ok]
    cases noD x with
    | false => rfl
    | true =>
      simp only [if_true, br_true]
      cases lift (pyTruth x) ρ with
      | ok k ρ => cases k <;> rfl
      | _ => rfl
  | _ => rfl
@[simp] theorem ev_ite {γ : Type} (t : EM Bool) (a b : EM γ) (ρ : Ev) : iteM t a b ρ = (t ρ).bind (kIf a b) := by
  unfold iteM
  cases t ρ with
  | ok k ρ => cases k <;> rfl
  | _ => rfl
@[simp] theorem ev_noP (ρ : Ev) : noP ρ = .ok none ρ := (rfl)
def sp : PV → Ev → Out (Option Int)
  | .int i, ρ => .ok (some i) ρ
  | _, _ => .stuck
@[simp] theorem sp_int (i : Int) (ρ : Ev) : sp (.int i) ρ = .ok (some i) ρ := (rfl)
@[simp] theorem ev_someP (m : EM PV) (ρ : Ev) : someP m ρ = (m ρ).bind sp := by
  unfold someP
  cases m ρ with
  | ok x ρ => cases x <;> rfl
  | _ => rfl
def kL3 (x : PV) (l : Option Int) : Option Int → Ev → Out PV := fun h ρ => lift (pySl x l h) ρ
def kL2 (h : EM (Option Int)) (x : PV) : Option Int → Ev → Out PV := fun l ρ => (h ρ).bind (kL3 x l)
def kL1 (l h : EM (Option Int)) : PV → Ev → Out PV := fun x ρ => (l ρ).bind (kL2 h x)
@[simp] theorem kL3_ (x : PV) (l h : Option Int) (ρ : Ev) : kL3 x l h ρ = lift (pySl x l h) ρ := (rfl)
@[simp] theorem kL2_ (h : EM (Option Int)) (x : PV) (l : Option Int) (ρ : Ev) : kL2 h x l ρ = (h ρ).bind (kL3 x l) := (rfl)
@[simp] theorem kL1_ (l h : EM (Option Int)) (x : PV) (ρ : Ev) : kL1 l h x ρ = (l ρ).bind (kL2 h x) := (rfl)
@[simp] theorem ev_sl (m : EM PV) (l h : EM (Option Int)) (ρ : Ev) : slM m l h ρ = (m ρ).bind (kL1 l h) := (rfl)
def kM4 (l h : Option Int) : PV → Ev → Out PV := fun x ρ => lift (pySl x l h) ρ
def kM3 (i : Nat) (l : Option Int) : Option Int → Ev → Out PV := fun h ρ => (peek i ρ).bind (kM4 l h)
def kM2 (i : Nat) (h : EM (Option Int)) : Option Int → Ev → Out PV := fun l ρ => (h ρ).bind (kM3 i l)
def kM1 (i : Nat) (l h : EM (Option Int)) : PV → Ev → Out PV := fun _ ρ => (l ρ).bind (kM2 i h)
@[simp] theorem kM4_ (x : PV) (l h : Option Int) (ρ : Ev) : kM4 l h x ρ = lift (pySl x l h) ρ := (rfl)
@[simp] theorem kM3_ (i : Nat) (l h : Option Int) (ρ : Ev) : kM3 i l h ρ = (peek i ρ).bind (kM4 l h) := (rfl)
@[simp] theorem kM2_ (i : Nat) (h : EM (Option Int)) (l : Option Int) (ρ : Ev) : kM2 i h l ρ = (h ρ).bind (kM3 i l) := (rfl)
@[simp] theorem kM1_ (i : Nat) (l h : EM (Option Int)) (x : PV) (ρ : Ev) : kM1 i l h x ρ = (l ρ).bind (kM2 i h) := (rfl)
@[simp] theorem ev_slN (i : Nat) (l h : EM (Option Int)) (ρ : Ev) : slN i l h ρ = (peek i ρ).bind (kM1 i l h) := (rfl)
def kI (T : Ty) : PV → Ev → Out PV := fun x ρ => .ok (.bl (isTy x T)) ρ
@[simp] theorem kI_ (T : Ty) (x : PV) (ρ : Ev) : kI T x ρ = .ok (.bl (isTy x T)) ρ := (rfl)
@[simp] theorem ev_isM (m : EM PV) (T : Ty) (ρ : Ev) : isM m T ρ = (m ρ).bind (kI T) := (rfl)
def kF : MO → Ev → Out PV := fun mo ρ => .ok mo.pv ρ
@[simp] theorem kF_ (mo : MO) (ρ : Ev) : kF mo ρ = .ok mo.pv ρ := (rfl)
@[simp] theorem ev_frz (m : EM MO) (ρ : Ev) : frz m ρ = (m ρ).bind kF := (rfl)
/-! arguments -/
@[simp] theorem ev_argNil (ρ : Ev) : argNil ρ = .ok [] ρ := (rfl)
def kV2 (a : AV) : List AV → Ev → Out (List AV) := fun as ρ => .ok (a :: as) ρ
def kV1 (ms : EM (List AV)) : PV → Ev → Out (List AV) := fun x ρ => (ms ρ).bind (kV2 (.v x))
def kW1 (i : Nat) (ms : EM (List AV)) : PV → Ev → Out (List AV) := fun _ ρ => (ms ρ).bind (kV2 (.s i))
@[simp] theorem kV2_ (a : AV) (as : List AV) (ρ : Ev) : kV2 a as ρ = .ok (a :: as) ρ := (rfl)
@[simp] theorem kV1_ (ms : EM (List AV)) (x : PV) (ρ : Ev) : kV1 ms x ρ = (ms ρ).bind (kV2 (.v x)) := (rfl)
@[simp] theorem kW1_ (i : Nat) (ms : EM (List AV)) (x : PV) (ρ : Ev) : kW1 i ms x ρ = (ms ρ).bind (kV2 (.s i)) := (rfl)
@[simp] theorem ev_argV (m : EM PV) (ms : EM (List AV)) (ρ : Ev) : argV m ms ρ = (m ρ).bind (kV1 ms) := (rfl)
@[simp] theorem ev_argN (i : Nat) (ms : EM (List AV)) (ρ : Ev) : argN i ms ρ = (peek i ρ).bind (kW1 i ms) := (rfl)
def sP : Option Slot → Option PV
  | some s => s.peek
  | none => none
@[simp] theorem sP_val (x : PV) : sP (some (.val x)) = some x := (rfl)
@[simp] theorem sP_own (b : Bool) (m : MO) : sP (some (.own b m)) = some m.pv := (rfl)
def consO {γ : Type} (x : γ) : Option (List γ) → Option (List γ)
  | some xs => some (x :: xs)
  | none => none
@[simp] theorem consO_some {γ : Type} (x : γ) (xs : List γ) : consO x (some xs) = some (x :: xs) := (rfl)
def consQ {γ : Type} : Option γ → Option (List γ) → Option (List γ)
  | some x, some xs => some (x :: xs)
  | _, _ => none
@[simp] theorem consQ_some {γ : Type} (x : γ) (xs : List γ) : consQ (some x) (some xs) = some (x :: xs) := (rfl)
@[simp] theorem ev_der0 (ρ : Ev) : derefs [] ρ = some [] := (rfl)
@[simp] theorem ev_derV (x : PV) (r : List AV) (ρ : Ev) : derefs (.v x :: r) ρ = consO x (derefs r ρ) := by rw [derefs]; cases derefs r ρ <;> rfl
@[simp] theorem ev_derS (i : Nat) (r : List AV) (ρ : Ev) : derefs (.s i :: r) ρ = consQ (sP ρ[i]?) (derefs r ρ) := by
  rw [derefs]
  cases ρ[i]? with
  | none => rfl
  | some s =>
    simp only [sP]
    cases s.peek <;> cases derefs r ρ <;> rfl
def kC2 (g : List PV → Option PV) : List PV → Ev → Out PV := fun xs ρ => lift (g xs) ρ
def kC1 (g : List PV → Option PV) : List AV → Ev → Out PV := fun as ρ => (lift (derefs as ρ) ρ).bind (kC2 g)
@[simp] theorem kC2_ (g : List PV → Option PV) (xs : List PV) (ρ : Ev) : kC2 g xs ρ = lift (g xs) ρ := (rfl)
@[simp] theorem kC1_ (g : List PV → Option PV) (as : List AV) (ρ : Ev) : kC1 g as ρ = (lift (derefs as ρ) ρ).bind (kC2 g) := (rfl)
@[simp] theorem ev_callB (g : List PV → Option PV) (ms : EM (List AV)) (ρ : Ev) : callB g ms ρ = (ms ρ).bind (kC1 g) := (rfl)
def smk (g : Str → List PV → Option PV) (ms : EM (List AV)) : PV → Ev → Out PV
  | .str a, ρ => (ms ρ).bind fun as ρ => (lift (derefs as ρ) ρ).bind fun xs ρ => lift (g a xs) ρ
  | _, _ => .stuck
@[simp] theorem smk_str (g : Str → List PV → Option PV) (ms : EM (List AV)) (a : Str) (ρ : Ev) : smk g ms (.str a) ρ = (ms ρ).bind (kC1 (g a)) := (rfl)
@[simp] theorem ev_strM (g : Str → List PV → Option PV) (mo : EM PV) (ms : EM (List AV)) (ρ : Ev) : strM g mo ms ρ = (mo ρ).bind (smk g ms) := by
  unfold strM
  cases mo ρ with
  | ok x ρ => cases x <;> rfl
  | _ => rfl
@[simp] theorem ev_vals0 : vals [] = some [] := (rfl)
@[simp] theorem ev_valsV (x : PV) (r : List AV) : vals (.v x :: r) = consO x (vals r) := by rw [vals]; cases vals r <;> rfl
def lsk : Option (List PV) → Ev → Out MO
  | some xs, ρ => if xs.length ≤ sizeLine then .ok (.lst xs) ρ else .stuck
  | none, _ => .stuck
@[simp] theorem lsk_some (xs : List PV) (ρ : Ev) : lsk (some xs) ρ = if xs.length ≤ sizeLine then .ok (.lst xs) ρ else .stuck := (rfl)
def kLs : List AV → Ev → Out MO := fun as ρ => lsk (vals as) ρ
@[simp] theorem kLs_ (as : List AV) (ρ : Ev) : kLs as ρ = lsk (vals as) ρ := (rfl)
@[simp] theorem ev_lst (ms : EM (List AV)) (ρ : Ev) : lstM ms ρ = (ms ρ).bind kLs := by
  unfold lstM kLs
  cases ms ρ with
  | ok as ρ => simp only [Out.bind_ok]; cases vals as <;> rfl
  | _ => rfl
def tpk : Option (List PV) → Ev → Out PV
  | some xs, ρ => if xs.length ≤ sizeLine then .ok (.tup xs) ρ else .stuck
  | none, _ => .stuck
@[simp] theorem tpk_some (xs : List PV) (ρ : Ev) : tpk (some xs) ρ = if xs.length ≤ sizeLine then .ok (.tup xs) ρ else .stuck := (rfl)
def kTp : List AV → Ev → Out PV := fun as ρ => tpk (vals as) ρ
@[simp] theorem kTp_ (as : List AV) (ρ : Ev) : kTp as ρ = tpk (vals as) ρ := (rfl)
@[simp] theorem ev_tup (ms : EM (List AV)) (ρ : Ev) : tupM ms ρ = (ms ρ).bind kTp := by
  unfold tupM kTp
  cases ms ρ with
  | ok as ρ => simp only [Out.bind_ok]; cases vals as <;> rfl
  | _ => rfl
def lik : PV → Ev → Out MO
  | .lst xs, ρ => .ok (.lst xs) ρ
  | .tup xs, ρ => .ok (.lst xs) ρ
  | _, _ => .stuck
@[simp] theorem lik_lst (xs : List PV) (ρ : Ev) : lik (.lst xs) ρ = .ok (.lst xs) ρ := (rfl)
@[simp] theorem lik_tup (xs : List PV) (ρ : Ev) : lik (.tup xs) ρ = .ok (.lst xs) ρ := (rfl)
@[simp] theorem ev_listM (m : EM PV) (ρ : Ev) : listM m ρ = (m ρ).bind lik := by
  unfold listM
  cases m ρ with
  | ok x ρ => cases x <;> rfl
  | _ => rfl
/-! calls -/
def mkS : Option Slot → Option Slot
  | some (.val x) => some (.val x)
  | some (.own _ m) => some (.own true m)
  | _ => none
@[simp] theorem mkS_val (x : PV) : mkS (some (.val x)) = some (.val x) := (rfl)
@[simp] theorem mkS_own (b : Bool) (m : MO) : mkS (some (.own b m)) = some (.own true m) := (rfl)
@[simp] theorem ev_mk0 (ρ : Ev) : mkArgs [] ρ = some [] := (rfl)
@[simp] theorem ev_mkV (x : PV) (r : List AV) (ρ : Ev) : mkArgs (.v x :: r) ρ = consO (.val x) (mkArgs r ρ) := by rw [mkArgs]; cases mkArgs r ρ <;> rfl
@[simp] theorem ev_mkS (i : Nat) (r : List AV) (ρ : Ev) : mkArgs (.s i :: r) ρ = consQ (mkS ρ[i]?) (mkArgs r ρ) := by
  rw [mkArgs]
  unfold mkS
  cases ρ[i]? with
  | none => rfl
  | some s => cases s <;> cases mkArgs r ρ <;> rfl
def ownI : Option Slot → Bool
  | some (.own _ _) => true
  | _ => false
@[simp] theorem ownI_val (x : PV) : ownI (some (.val x)) = false := (rfl)
@[simp] theorem ownI_own (b : Bool) (m : MO) : ownI (some (.own b m)) = true := (rfl)
@[simp] theorem ev_ow0 (ρ : Ev) : owns [] ρ = [] := (rfl)
@[simp] theorem ev_owV (x : PV) (r : List AV) (ρ : Ev) : owns (.v x :: r) ρ = owns r ρ := (rfl)
@[simp] theorem ev_owS (i : Nat) (r : List AV) (ρ : Ev) : owns (.s i :: r) ρ = if ownI ρ[i]? = true then i :: owns r ρ else owns r ρ := by
  rw [owns]
  unfold ownI
  cases ρ[i]? with
  | none => rfl
  | some s => cases s <;> rfl
def pbk (i : Nat) : Option Slot → Slot → Ev → Ev
  | some (.own b _), .own _ m, ρ => ρ.set i (.own b m)
  | _, _, ρ => ρ
@[simp] theorem pbk_own (i : Nat) (b b' : Bool) (m m' : MO) (ρ : Ev) : pbk i (some (.own b m)) (.own b' m') ρ = ρ.set i (.own b m') := (rfl)
@[simp] theorem pbk_val (i : Nat) (x : PV) (s : Slot) (ρ : Ev) : pbk i (some (.val x)) s ρ = ρ := (rfl)
@[simp] theorem ev_pb0 (ss : List Slot) (ρ : Ev) : putBack [] ss ρ = ρ := by cases ss <;> rfl
@[simp] theorem ev_pbV (x : PV) (r : List AV) (s : Slot) (ss : List Slot) (ρ : Ev) : putBack (.v x :: r) (s :: ss) ρ = putBack r ss ρ := (rfl)
@[simp] theorem ev_pbS (i : Nat) (r : List AV) (s : Slot) (ss : List Slot) (ρ : Ev) : putBack (.s i :: r) (s :: ss) ρ = putBack r ss (pbk i ρ[i]? s ρ) := by
  rw [putBack_s]
  unfold pbk
  split <;> simp_all
def aft (as : List AV) (ρ : Ev) : FOut → Out Ret
  | .ok r ss => .ok r (putBack as ss ρ)
  | .exc e ss => .exc e (putBack as ss ρ)
  | .stuck => .stuck
@[simp] theorem aft_ok (as : List AV) (ρ : Ev) (r : Ret) (ss : List Slot) : aft as ρ (.ok r ss) = .ok r (putBack as ss ρ) := (rfl)
@[simp] theorem aft_exc (as : List AV) (ρ : Ev) (e : Ex) (ss : List Slot) : aft as ρ (.exc e ss) = .exc e (putBack as ss ρ) := (rfl)
def apS (f : FM) (as : List AV) (ρ : Ev) : Option (List Slot) → Out Ret
  | some ss => if (owns as ρ).Nodup then aft as ρ (f ss) else .stuck
  | none => .stuck
@[simp] theorem apS_some (f : FM) (as : List AV) (ρ : Ev) (ss : List Slot) : apS f as ρ (some ss) = if (owns as ρ).Nodup then aft as ρ (f ss) else .stuck := (rfl)
theorem ev_applyF (f : FM) (as : List AV) (ρ : Ev) : applyF f as ρ = apS f as ρ (mkArgs as ρ) := by
  unfold applyF apS
  cases mkArgs as ρ with
  | none => rfl
  | some ss =>
    simp only
    split
    · cases f ss <;> rfl
    · rfl
def kAp (f : FM) : List AV → Ev → Out Ret := fun as ρ => apS f as ρ (mkArgs as ρ)
@[simp] theorem kAp_ (f : FM) (as : List AV) (ρ : Ev) : kAp f as ρ = apS f as ρ (mkArgs as ρ) := (rfl)
@[simp] theorem ev_callF (f : FM) (ms : EM (List AV)) (ρ : Ev) : callF f ms ρ = (ms ρ).bind (kAp f) := by
  unfold callF
  congr 1
  funext as ρ
  exact ev_applyF f as ρ
def kPv : Ret → Ev → Out PV := fun r ρ => .ok r.pv ρ
@[simp] theorem kPv_ (r : Ret) (ρ : Ev) : kPv r ρ = .ok r.pv ρ := (rfl)
@[simp] theorem ev_callE (f : FM) (ms : EM (List AV)) (ρ : Ev) : callE f ms ρ = (callF f ms ρ).bind kPv := (rfl)
def rk : Ret → Ev → Out MO
  | .o m, ρ => .ok m ρ
  | .v _, _ => .stuck
@[simp] theorem rk_o (m : MO) (ρ : Ev) : rk (.o m) ρ = .ok m ρ := (rfl)
@[simp] theorem ev_callO (f : FM) (ms : EM (List AV)) (ρ : Ev) : callO f ms ρ = (callF f ms ρ).bind rk := by
  unfold callO
  cases callF f ms ρ with
  | ok r ρ => cases r <;> rfl
  | _ => rfl
@[simp] theorem ret_v (x : PV) : (Ret.v x).pv = x := (rfl)
@[simp] theorem ret_o (m : MO) : (Ret.o m).pv = m.pv := (rfl)
/-! defs -/
def fin (n : Nat) (as : List Slot) : SO → FOut
  | .nxt ρ => if n ≤ ρ.length then .ok (.v .non) (back as ρ) else .stuck
  | .ret r ρ => if n ≤ ρ.length then .ok r (back as ρ) else .stuck
  | .exc e ρ => if n ≤ ρ.length then .exc e (back as ρ) else .stuck
  | _ => .stuck
@[simp] theorem fin_nxt (n : Nat) (as : List Slot) (ρ : Ev) : fin n as (.nxt ρ) = if n ≤ ρ.length then .ok (.v .non) (back as ρ) else .stuck := (rfl)
@[simp] theorem fin_ret (n : Nat) (as : List Slot) (r : Ret) (ρ : Ev) : fin n as (.ret r ρ) = if n ≤ ρ.length then .ok r (back as ρ) else .stuck := (rfl)
@[simp] theorem fin_exc (n : Nat) (as : List Slot) (e : Ex) (ρ : Ev) : fin n as (.exc e ρ) = if n ≤ ρ.length then .exc e (back as ρ) else .stuck := (rfl)
theorem ev_fn (n N : Nat) (body : SM) (as : List Slot) : fnB n N body as = if as.length = n then fin n as (body (enter N as)) else .stuck := by
  unfold fnB fin
  split
  · cases body (enter N as) <;> rfl
  · rfl
@[simp] theorem back_nil (ρ : Ev) : back [] ρ = [] := by cases ρ <;> rfl
@[simp] theorem back_own (b : Bool) (m : MO) (as : List Slot) (s : Slot) (ρ : Ev) : back (.own b m :: as) (s :: ρ) = s :: back as ρ := (rfl)
@[simp] theorem back_val (x : PV) (as : List Slot) (s : Slot) (ρ : Ev) : back (.val x :: as) (s :: ρ) = .val x :: back as ρ := (rfl)
/-! operators -/
@[simp] theorem add_int (i j : Int) : pyAdd (.int i) (.int j) = some (.int (i + j)) := (rfl)
@[simp] theorem sub_int (i j : Int) : pySub (.int i) (.int j) = some (.int (i - j)) := (rfl)
@[simp] theorem mod_int (i j : Int) : pyMod (.int i) (.int j) = if 0 < j then some (.int (i % j)) else none := (rfl)
@[simp] theorem mul_int (i j : Int) : pyMul (.int i) (.int j) = if CMulW i j then some (.int (i * j)) else none := (rfl)
@[simp] theorem div_int (i j : Int) : pyDiv (.int i) (.int j) = if CDivW i j then some (.int (i / j)) else none := (rfl)
@[simp] theorem pow_int (i j : Int) : pyPow (.int i) (.int j) = if CPowW i j then some (.int (i ^ j.toNat)) else none := (rfl)
@[simp] theorem neg_int (i : Int) : pyNeg (.int i) = some (.int (-i)) := (rfl)
@[simp] theorem lt_int (i j : Int) : pyLt (.int i) (.int j) = some (.bl (decide (i < j))) := (rfl)
@[simp] theorem le_int (i j : Int) : pyLe (.int i) (.int j) = some (.bl (decide (i ≤ j))) := (rfl)
@[simp] theorem gt_int (i j : Int) : pyGt (.int i) (.int j) = some (.bl (decide (j < i))) := (rfl)
@[simp] theorem ge_int (i j : Int) : pyGe (.int i) (.int j) = some (.bl (decide (j ≤ i))) := (rfl)
@[simp] theorem eq_int (i j : Int) : pyEq (.int i) (.int j) = some (.bl (decide (i = j))) := (rfl)
@[simp] theorem ne_int (i j : Int) : pyNe (.int i) (.int j) = some (.bl (!decide (i = j))) := (rfl)
@[simp] theorem eq_str (i j : Str) : pyEq (.str i) (.str j) = some (.bl (decide (i = j))) := (rfl)
@[simp] theorem ne_str (i j : Str) : pyNe (.str i) (.str j) = some (.bl (!decide (i = j))) := (rfl)
@[simp] theorem eq_bl (i j : Bool) : pyEq (.bl i) (.bl j) = some (.bl (i == j)) := by cases i <;> cases j <;> rfl
@[simp] theorem add_str (a b : Str) : pyAdd (.str a) (.str b) = if a.length + b.length ≤ sizeLine then some (.str (a ++ b)) else none := (rfl)
@[simp] theorem lt_str (a b : Str) : pyLt (.str a) (.str b) = some (.bl (decide (a.cps.toList < b.cps.toList))) := (rfl)
@[simp] theorem ix_lst (xs : List PV) (i : Int) : pyIx (.lst xs) (.int i) = atI xs i := (rfl)
@[simp] theorem ix_tup (xs : List PV) (i : Int) : pyIx (.tup xs) (.int i) = atI xs i := (rfl)
theorem ix_str (s : Str) (i : Int) : pyIx (.str s) (.int i) = if s.length ≤ sizeLine then (atI s.cps.toList i).map fun c => .str ⟨#[c]⟩ else none := rfl
@[simp] theorem tr_bl (b : Bool) : pyTruth (.bl b) = some b := (rfl)
@[simp] theorem tr_int (i : Int) : pyTruth (.int i) = some (i != 0) := (rfl)
@[simp] theorem tr_non : pyTruth .non = some false := (rfl)
@[simp] theorem noD_bl (b : Bool) : noD (.bl b) = true := (rfl)
@[simp] theorem not_bl (b : Bool) : pyNot (.bl b) = some (.bl (!b)) := (rfl)
@[simp] theorem isty_int_int (i : Int) : isTy (.int i) .int = true := (rfl)
@[simp] theorem isty_int_str (i : Int) : isTy (.int i) .str = false := (rfl)
@[simp] theorem isty_int_bool (i : Int) : isTy (.int i) .bool = false := (rfl)
@[simp] theorem isty_str_str (i : Str) : isTy (.str i) .str = true := (rfl)
@[simp] theorem isty_str_int (i : Str) : isTy (.str i) .int = false := (rfl)
@[simp] theorem isty_str_bool (i : Str) : isTy (.str i) .bool = false := (rfl)
@[simp] theorem isty_bl_bool (i : Bool) : isTy (.bl i) .bool = true := (rfl)
@[simp] theorem isty_bl_int (i : Bool) : isTy (.bl i) .int = true := (rfl)
@[simp] theorem isty_bl_str (i : Bool) : isTy (.bl i) .str = false := (rfl)
@[simp] theorem isty_non (T : Ty) : isTy .non T = false := by cases T <;> rfl
@[simp] theorem is_non (x : PV) (h : x = .non) : pyIs x .non = some (.bl true) := by subst h; rfl
@[simp] theorem is_bl (a b : Bool) : pyIs (.bl a) (.bl b) = some (.bl (a == b)) := (rfl)
@[simp] theorem isnot_bl (a b : Bool) : pyIsNot (.bl a) (.bl b) = some (.bl (!(a == b))) := (rfl)
@[simp] theorem is_non_non : pyIs .non .non = some (.bl true) := (rfl)
@[simp] theorem is_int_non (i : Int) : pyIs (.int i) .non = some (.bl false) := (rfl)
@[simp] theorem is_str_non (i : Str) : pyIs (.str i) .non = some (.bl false) := (rfl)
@[simp] theorem isnot_non_non : pyIsNot .non .non = some (.bl false) := (rfl)
@[simp] theorem isnot_int_non (i : Int) : pyIsNot (.int i) .non = some (.bl true) := (rfl)
@[simp] theorem isnot_str_non (i : Str) : pyIsNot (.str i) .non = some (.bl true) := (rfl)
@[simp] theorem len_lst (xs : List PV) : bLen [.lst xs] = some (.int xs.length) := (rfl)
@[simp] theorem len_tup (xs : List PV) : bLen [.tup xs] = some (.int xs.length) := (rfl)
@[simp] theorem len_str (s : Str) : bLen [.str s] = if s.length ≤ sizeLine then some (.int s.length) else none := (rfl)
@[simp] theorem int_int (i : Int) : bInt [.int i] = some (.int i) := (rfl)
@[simp] theorem bool_bl (i : Bool) : bBool [.bl i] = some (.bl i) := (rfl)
@[simp] theorem max_int (i j : Int) : bMax [.int i, .int j] = some (.int (if j > i then j else i)) := (rfl)
@[simp] theorem store_lst (xs : List PV) (i : Int) (x : PV) : storeQ (.lst xs) (.int i) x = (ixN xs.length i).map fun j => .lst (xs.set j x) := (rfl)
end
end TR

set_option Elab.async false
set_option linter.all false
set_option maxRecDepth 100000
/-! TRQ: loops and comprehensions are computed. -/
namespace TR
open PySem PySem.Spec L2
set_option autoImplicit false
def sv : Option Slot → Bool
  | some (.own _ _) => false
  | _ => true
@[simp] theorem sv_val (x : PV) : sv (some (.val x)) = true := (rfl)
@[simp] theorem sv_non : sv (some .non) = true := (rfl)
@[simp] theorem ev_save0 (ρ : Ev) : saveOk ρ [] = true := (rfl)
@[simp] theorem ev_save (ρ : Ev) (v : Nat) (vs : List Nat) : saveOk ρ (v :: vs) = (sv ρ[v]? && saveOk ρ vs) := by
  unfold saveOk
  rw [List.all_cons]
  rfl
@[simp] theorem ev_wipe0 (ρ : Ev) : wipeE ρ [] = ρ := (rfl)
@[simp] theorem ev_wipe (ρ : Ev) (v : Nat) (vs : List Nat) : wipeE ρ (v :: vs) = (wipeE ρ vs).set v .non := (rfl)
@[simp] theorem ev_rest0 (ρ0 ρ : Ev) : restE ρ0 [] ρ = ρ := (rfl)
@[simp] theorem ev_rest (ρ0 ρ : Ev) (v : Nat) (vs : List Nat) : restE ρ0 (v :: vs) ρ = (restE ρ0 vs ρ).set v (ρ0.getD v .non) := (rfl)
@[simp] theorem ev_noT (ρ : Ev) : noT ρ = .ok true ρ := (rfl)
def kIv : PV → Ev → Out (List PV)
  | .lst xs, ρ => .ok xs ρ
  | .tup xs, ρ => .ok xs ρ
  | .str s, ρ => .ok (chrs s) ρ
  | _, _ => .stuck
@[simp] theorem kIv_lst (xs : List PV) (ρ : Ev) : kIv (.lst xs) ρ = .ok xs ρ := (rfl)
@[simp] theorem kIv_tup (xs : List PV) (ρ : Ev) : kIv (.tup xs) ρ = .ok xs ρ := (rfl)
@[simp] theorem kIv_str (s : Str) (ρ : Ev) : kIv (.str s) ρ = .ok (chrs s) ρ := (rfl)
@[simp] theorem ev_itV (m : EM PV) (ρ : Ev) : itV m ρ = (m ρ).bind kIv := by
  unfold itV
  cases m ρ with
  | ok x ρ => cases x <;> rfl
  | _ => rfl
def kI1 : PV → Ev → Out (List PV)
  | .int j, ρ => if okR j = true then .ok (rng 0 j.toNat) ρ else .stuck
  | _, _ => .stuck
@[simp] theorem kI1_int (j : Int) (ρ : Ev) : kI1 (.int j) ρ = if okR j = true then .ok (rng 0 j.toNat) ρ else .stuck := (rfl)
@[simp] theorem ev_itR1 (m : EM PV) (ρ : Ev) : itR1 m ρ = (m ρ).bind kI1 := by
  unfold itR1
  cases m ρ with
  | ok x ρ => cases x <;> rfl
  | _ => rfl
def kI3 : PV → PV → Ev → Out (List PV)
  | .int i, .int j, ρ => if (okR i && okR j) = true then .ok (rng i (j - i).toNat) ρ else .stuck
  | _, _, _ => .stuck
def kI2 (b : EM PV) : PV → Ev → Out (List PV) := fun x ρ => (b ρ).bind (kI3 x)
@[simp] theorem kI3_int (i j : Int) (ρ : Ev) : kI3 (.int i) (.int j) ρ = if (okR i && okR j) = true then .ok (rng i (j - i).toNat) ρ else .stuck := (rfl)
@[simp] theorem kI2_ (b : EM PV) (x : PV) (ρ : Ev) : kI2 b x ρ = (b ρ).bind (kI3 x) := (rfl)
@[simp] theorem ev_itR2 (a b : EM PV) (ρ : Ev) : itR2 a b ρ = (a ρ).bind (kI2 b) := by
  unfold itR2 kI2
  congr 1
  funext x ρ
  congr 1
  funext y ρ
  cases x <;> cases y <;> rfl
theorem okR_small {i : Int} (h1 : -1000000 ≤ i) (h2 : i ≤ 1000000) : okR i = true := by
  unfold okR
  rw [Bool.and_eq_true, decide_eq_true_eq, decide_eq_true_eq]
  omega
def kLs2 : List PV → Ev → Out MO := fun ys ρ => .ok (.lst ys) ρ
@[simp] theorem kLs2_ (ys : List PV) (ρ : Ev) : kLs2 ys ρ = .ok (.lst ys) ρ := (rfl)
def kCm (vs : List Nat) (tg : Tg) (t : EM Bool) (e : EM PV) : List PV → Ev → Out MO := fun xs ρ => if saveOk ρ vs = true then (cmpL vs tg t e xs [] ρ).bind kLs2 else .stuck
@[simp] theorem kCm_ (vs : List Nat) (tg : Tg) (t : EM Bool) (e : EM PV) (xs : List PV) (ρ : Ev) : kCm vs tg t e xs ρ = if saveOk ρ vs = true then (cmpL vs tg t e xs [] ρ).bind kLs2 else .stuck := (rfl)
@[simp] theorem ev_cmp (vs : List Nat) (mi : EM (List PV)) (tg : Tg) (t : EM Bool) (e : EM PV) (ρ : Ev) : cmpM vs mi tg t e ρ = (mi ρ).bind (kCm vs tg t e) := (rfl)
@[simp] theorem cmpL_nil (vs : List Nat) (tg : Tg) (t : EM Bool) (e : EM PV) (acc : List PV) (ρ : Ev) : cmpL vs tg t e [] acc ρ = .ok acc ρ := (rfl)
/-- a comprehension, by what holds between the turns -/
theorem cmpL_rule {vs : List Nat} {tg : Tg} {t : EM Bool} {e : EM PV} (R : List PV → List PV → Ev → Prop)
    (step : ∀ x xs acc ρ, R (x :: xs) acc ρ → ∃ ρ1 b ρ2, tg x (wipeE ρ vs) = some ρ1 ∧ t ρ1 = .ok b ρ2 ∧ (b = true → ∃ y ρ3, e ρ2 = .ok y ρ3 ∧ acc.length < sizeLine ∧ R xs (acc ++ [y]) (restE ρ vs ρ3)) ∧ (b = false → R xs acc (restE ρ vs ρ2))) :
    ∀ (xs acc : List PV) (ρ : Ev), R xs acc ρ → ∃ ys ρ', cmpL vs tg t e xs acc ρ = .ok ys ρ' ∧ R [] ys ρ'
  | [], acc, ρ, h => ⟨acc, ρ, rfl, h⟩
  | x :: xs, acc, ρ, h => by
    obtain ⟨ρ1, b, ρ2, e1, e2, e3, e4⟩ := step x xs acc ρ h
    rw [cmpL]
    simp only [e1, e2, noX, Out.bind_ok]
    cases b with
    | true =>
      obtain ⟨y, ρ3, e5, hz, r⟩ := e3 rfl
      obtain ⟨ys, ρ', q1, q2⟩ := cmpL_rule R step xs _ _ r
      refine ⟨ys, ρ', ?_, q2⟩
      simp only [e5, noX, Out.bind_ok, if_pos hz]
      exact q1
    | false => exact cmpL_rule R step xs _ _ (e4 rfl)
/-- the same without a test: the items are made one by one -/
theorem cmpL_map {vs : List Nat} {tg : Tg} {e : EM PV} (R : List PV → List PV → Ev → Prop)
    (step : ∀ x xs acc ρ, R (x :: xs) acc ρ → ∃ ρ1 y ρ3, tg x (wipeE ρ vs) = some ρ1 ∧ e ρ1 = .ok y ρ3 ∧ acc.length < sizeLine ∧ R xs (acc ++ [y]) (restE ρ vs ρ3)) (xs acc : List PV) (ρ : Ev) (h : R xs acc ρ) :
    ∃ ys ρ', cmpL vs tg noT e xs acc ρ = .ok ys ρ' ∧ R [] ys ρ' :=
  cmpL_rule R (fun x xs acc ρ r => by
    obtain ⟨ρ1, y, ρ3, h1, h2, h3, h4⟩ := step x xs acc ρ r
    exact ⟨ρ1, true, ρ1, h1, rfl, fun _ => ⟨y, ρ3, h2, h3, h4⟩, fun z => nomatch z⟩) xs acc ρ h
/-! for -/
def kFr (tg : Tg) (body : SM) : List PV → SM := fun xs ρ => frL tg body xs ρ
@[simp] theorem kFr_ (tg : Tg) (body : SM) (xs : List PV) (ρ : Ev) : kFr tg body xs ρ = frL tg body xs ρ := (rfl)
@[simp] theorem ev_frM (m : EM (List PV)) (tg : Tg) (body : SM) (ρ : Ev) : frM m tg body ρ = (m ρ).to (kFr tg body) := (rfl)
@[simp] theorem frL_nil (tg : Tg) (body : SM) (ρ : Ev) : frL tg body [] ρ = .nxt ρ := (rfl)
/-- a loop, by what holds ahead of each turn -/
theorem frL_rule {tg : Tg} {body : SM} (R : List PV → Ev → Prop) (Q : SO → Prop)
    (step : ∀ x xs ρ, R (x :: xs) ρ → ∃ ρ1, tg x ρ = some ρ1 ∧ ((∃ ρ2, (body ρ1 = .nxt ρ2 ∨ body ρ1 = .cnt ρ2) ∧ R xs ρ2) ∨ (∃ r ρ2, body ρ1 = .ret r ρ2 ∧ Q (.ret r ρ2)) ∨ (∃ ρ2, body ρ1 = .brk ρ2 ∧ Q (.nxt ρ2)) ∨ ∃ x ρ2, body ρ1 = .exc x ρ2 ∧ Q (.exc x ρ2)))
    (done : ∀ ρ, R [] ρ → Q (.nxt ρ)) : ∀ (xs : List PV) (ρ : Ev), R xs ρ → Q (frL tg body xs ρ)
  | [], ρ, h => done ρ h
  | x :: xs, ρ, h => by
    obtain ⟨ρ1, e1, e2⟩ := step x xs ρ h
    rw [frL]
    simp only [e1]
    rcases e2 with ⟨ρ2, e2 | e2, r⟩ | ⟨r, ρ2, e2, q⟩ | ⟨ρ2, e2, q⟩ | ⟨x, ρ2, e2, q⟩
    · rw [e2]; exact frL_rule R Q step done xs ρ2 r
    · rw [e2]; exact frL_rule R Q step done xs ρ2 r
    · rw [e2]; exact q
    · rw [e2]; exact q
    · rw [e2]; exact q
/-! while -/
theorem whM_eqn (c : EM Bool) (b : SM) (ρ : Ev) : whM c b ρ = (c ρ).to fun k ρ => match k with
    | true => loopK (whM c b) (b ρ)
    | false => .nxt ρ := by
  by_cases h : ∃ n, (whF c b n ρ).live = true
  · obtain ⟨n, hn⟩ := h
    cases n with
    | zero => cases hn
    | succ n =>
      rw [whM_eq hn, whF_succ]
      rw [whF_succ] at hn
      cases q : c ρ with
      | stuck => rfl
      | exc e ρ' => rfl
      | ok k ρ' =>
        rw [q] at hn
        cases k with
        | false => rfl
        | true => exact (loopK_mono (k := whF c b n) (fun ρ h => whM_eq h) hn).symm
  · have e : whM c b ρ = .stuck := by
      unfold whM
      rw [dif_neg h]
    rw [e]
    cases q : c ρ with
    | stuck => rfl
    | exc x ρ' => exact absurd ⟨1, by rw [whF_succ, q]; rfl⟩ h
    | ok k ρ' =>
      cases k with
      | false => exact absurd ⟨1, by rw [whF_succ, q]; rfl⟩ h
      | true =>
        show SO.stuck = loopK (whM c b) (b ρ')
        have key : ∀ ρ2, (b ρ' = .nxt ρ2 ∨ b ρ' = .cnt ρ2) → whM c b ρ2 = .stuck := fun ρ2 hb => by
          unfold whM
          rw [dif_neg]
          rintro ⟨n, hn⟩
          refine h ⟨n + 1, ?_⟩
          rw [whF_succ, q]
          show (loopK (whF c b n) (b ρ')).live = true
          rcases hb with hb | hb <;> (rw [hb]; exact hn)
        cases hb : b ρ' with
        | nxt ρ2 => exact (key ρ2 (.inl hb)).symm
        | cnt ρ2 => exact (key ρ2 (.inr hb)).symm
        | stuck => rfl
        | brk ρ2 => exact absurd ⟨1, by rw [whF_succ, q]; show (loopK _ (b ρ')).live = true; rw [hb]; rfl⟩ h
        | ret r ρ2 => exact absurd ⟨1, by rw [whF_succ, q]; show (loopK _ (b ρ')).live = true; rw [hb]; rfl⟩ h
        | exc x ρ2 => exact absurd ⟨1, by rw [whF_succ, q]; show (loopK _ (b ρ')).live = true; rw [hb]; rfl⟩ h
/-! texts -/
theorem strsOf_map (ss : List Str) : strsOf (ss.map .str) = some ss := by
  induction ss with
  | nil => rfl
  | cons s ss ih => rw [List.map_cons, strsOf, ih]; rfl
@[simp] theorem join_lst (a : Str) (ss : List Str) : sJoin a [.lst (ss.map .str)] = if joinOk a ss = true then some (.str (Txt.join a ss)) else none := by
  show (strsOf (ss.map .str)).bind _ = _
  rw [strsOf_map]
  rfl
@[simp] theorem starts_str (a b : Str) : sStarts a [.str b] = some (.bl (Txt.startswith a b)) := (rfl)
end TR

set_option Elab.async false
set_option linter.all false
set_option maxRecDepth 100000
/-! TRS: texts as lists of signs. -/
namespace TR
open PySem PySem.Spec L2
set_option autoImplicit false
/-- a text's signs -/
def L (s : Str) : List Nat := s.cps.toList
theorem L_inj {a b : Str} (h : L a = L b) : a = b := by
  cases a; cases b
  simp only [L] at h
  congr 1
  exact Array.toList_inj.mp h
theorem L_len (s : Str) : s.length = (L s).length := rfl
@[simp] theorem L_app (a b : Str) : L (a ++ b) = L a ++ L b := by
  show (a.cps ++ b.cps).toList = _
  rw [Array.toList_append]
  rfl
@[simp] theorem L_mk (l : List Nat) : L ⟨l.toArray⟩ = l := rfl
theorem L_cut (s : Str) (lo hi : Option Int) : L (cutS s lo hi) = ((L s).drop (HT.sIx s.length 0 lo)).take (HT.sIx s.length s.length hi - HT.sIx s.length 0 lo) := rfl
theorem cut_upto (s : Str) (n : Nat) : L (cutS s none (some (n : Int))) = (L s).take n := by
  rw [L_cut, HT.sIx_none, HT.sIx_nat, List.drop_zero, Nat.sub_zero, Nat.min_comm]
  show List.take (min (L s).length n) (L s) = _
  rw [List.take_eq_take_iff]
  omega
theorem join_is (a : Str) (ss : List Str) : Txt.join a ss = Str.join a ss := PySem.StrLaws.glued_eq_join a ss
theorem L_join (ss : List Str) : L (Txt.join ⟨#[]⟩ ss) = ss.flatMap L := by
  rw [join_is]
  induction ss with
  | nil => rfl
  | cons a r ih =>
    cases r with
    | nil => simp [Str.join]
    | cons b r =>
      rw [Str.join]
      · simp only [L_app] at ih ⊢
        rw [ih]
        show L a ++ [] ++ _ = _
        simp
      · simp
theorem L_empty : L (Str.ofString "") = [] := by decide
theorem empty_is : Str.ofString "" = ⟨#[]⟩ := by decide
/-- the signs as texts -/
def chs (cs : List Nat) : List PV := cs.map fun c => .str ⟨#[c]⟩
@[simp] theorem chs_nil : chs [] = [] := rfl
theorem chs_app (a b : List Nat) : chs (a ++ b) = chs a ++ chs b := List.map_append
theorem chs_snoc (a : List Nat) (c : Nat) : chs a ++ [.str ⟨#[c]⟩] = chs (a ++ [c]) := (chs_app a [c]).symm
@[simp] theorem chs_len (a : List Nat) : (chs a).length = a.length := List.length_map _
theorem chrs_is (s : Str) : chrs s = chs (L s) := rfl
theorem join_chs {cs : List Nat} (h : cs.length ≤ 16777216) : sJoin (Str.ofString "") [.lst (chs cs)] = some (.str ⟨cs.toArray⟩) := by
  have mp : chs cs = (cs.map fun c => (⟨#[c]⟩ : Str)).map PV.str := by unfold chs; rw [List.map_map]; rfl
  have sm : ((cs.map fun c => (⟨#[c]⟩ : Str)).map (·.length)).sum = cs.length := by
    clear h mp
    induction cs with
    | nil => rfl
    | cons c cs ih => rw [List.map_cons, List.map_cons, List.sum_cons, ih, List.length_cons, Nat.add_comm]; rfl
  have jo : joinOk (Str.ofString "") (cs.map fun c => (⟨#[c]⟩ : Str)) = true := by
    unfold joinOk
    rw [decide_eq_true_eq, sm, empty_is]
    show cs.length + _ * 0 ≤ _
    omega
  have jn : Txt.join (Str.ofString "") (cs.map fun c => (⟨#[c]⟩ : Str)) = ⟨cs.toArray⟩ := by
    refine L_inj ?_
    rw [empty_is, L_join, L_mk, List.flatMap_map]
    exact List.flatMap_singleton' cs
  rw [mp, join_lst, if_pos jo, jn]
theorem ix_sign {s : Str} {i : Int} (hs : s.length ≤ sizeLine) (h0 : 0 ≤ i) (h1 : i < (L s).length) : ∃ c, c ∈ L s ∧ pyIx (.str s) (.int i) = some (.str ⟨#[c]⟩) := by
  have hl : i.toNat < (L s).length := by omega
  refine ⟨(L s)[i.toNat], List.getElem_mem _, ?_⟩
  rw [TR.ix_str, if_pos hs]
  have : atI s.cps.toList i = some (L s)[i.toNat] := by
    unfold atI ixN
    have h1' : i < (s.cps.toList.length : Int) := h1
    rw [if_pos h0, if_pos h1']
    exact List.getElem?_eq_getElem hl
  rw [this]
  rfl
end TR

set_option Elab.async false
set_option linter.all false
set_option maxRecDepth 100000
/-! TRT: more evaluation: methods, items. -/
namespace TR
open PySem PySem.Spec L2
set_option autoImplicit false
def me2 (i : Nat) (b : Bool) : Option (PV × List PV) → Ev → Out PV
  | some (z, ys), ρ => .ok z (ρ.set i (.own b (.lst ys)))
  | none, _ => .stuck
@[simp] theorem me2_ (i : Nat) (b : Bool) (z : PV) (ys : List PV) (ρ : Ev) : me2 i b (some (z, ys)) ρ = .ok z (ρ.set i (.own b (.lst ys))) := (rfl)
def me1 (g : List PV → List PV → Option (PV × List PV)) (i : Nat) : Option (List PV) → Option Slot → Ev → Out PV
  | some args, some (.own b (.lst xs)), ρ => me2 i b (g xs args) ρ
  | _, _, _ => .stuck
@[simp] theorem me1_ (g : List PV → List PV → Option (PV × List PV)) (i : Nat) (args xs : List PV) (b : Bool) (ρ : Ev) : me1 g i (some args) (some (.own b (.lst xs))) ρ = me2 i b (g xs args) ρ := (rfl)
def kMe (g : List PV → List PV → Option (PV × List PV)) (i : Nat) : List AV → Ev → Out PV := fun as ρ => me1 g i (vals as) ρ[i]? ρ
@[simp] theorem kMe_ (g : List PV → List PV → Option (PV × List PV)) (i : Nat) (as : List AV) (ρ : Ev) : kMe g i as ρ = me1 g i (vals as) ρ[i]? ρ := (rfl)
def me0 (g : List PV → List PV → Option (PV × List PV)) (i : Nat) (ms : EM (List AV)) : Option Slot → Ev → Out PV
  | some (.own _ (.lst _)), ρ => (ms ρ).bind (kMe g i)
  | _, _ => .stuck
@[simp] theorem me0_ (g : List PV → List PV → Option (PV × List PV)) (i : Nat) (ms : EM (List AV)) (b : Bool) (xs : List PV) (ρ : Ev) : me0 g i ms (some (.own b (.lst xs))) ρ = (ms ρ).bind (kMe g i) := (rfl)
@[simp] theorem ev_meth (g : List PV → List PV → Option (PV × List PV)) (i : Nat) (ms : EM (List AV)) (ρ : Ev) : methM g i ms ρ = me0 g i ms ρ[i]? ρ := by
  have k : ∀ (as : List AV) (ρ : Ev), (match vals as, ρ[i]? with
      | some args, some (.own b (.lst xs)) => (match g xs args with
        | some (z, ys) => Out.ok z (ρ.set i (.own b (.lst ys)))
        | none => .stuck)
      | _, _ => .stuck) = kMe g i as ρ := by
    intro as ρ
    rw [kMe_]
    unfold me1
    cases vals as with
    | none => rfl
    | some args =>
      cases ρ[i]? with
      | none => rfl
      | some s =>
        cases s with
        | own b m =>
          cases m with
          | lst xs =>
            show (match g xs args with
              | some (z, ys) => Out.ok z (ρ.set i (.own b (.lst ys)))
              | none => .stuck) = me2 i b (g xs args) ρ
            cases g xs args with
            | none => rfl
            | some p => cases p; rfl
          | dct _ => rfl
          | obj _ _ => rfl
        | _ => rfl
  unfold methM me0
  cases ρ[i]? with
  | none => rfl
  | some s =>
    cases s with
    | own b m =>
      cases m with
      | lst xs =>
        show (ms ρ).bind _ = (ms ρ).bind _
        congr 1
        funext as ρ
        exact k as ρ
      | dct _ => rfl
      | obj _ _ => rfl
    | _ => rfl
@[simp] theorem app_one (xs : List PV) (x : PV) : lAppend xs [x] = if xs.length < sizeLine then some (.non, xs ++ [x]) else none := (rfl)
theorem rng_mem {n : Nat} {x : PV} (h : x ∈ rng 0 n) : ∃ i : Nat, i < n ∧ x = .int i := by
  obtain ⟨i, hi⟩ := List.getElem?_of_mem h
  have hl : i < n := by
    have := (List.getElem?_eq_some_iff.mp hi).1
    rwa [rng_len] at this
  rw [rng_get hl] at hi
  cases hi
  exact ⟨i, hl, by simp⟩
/-- an item by a place that is there -/
theorem ix_at {xs : List PV} {i : Nat} {x : PV} (h : xs[i]? = some x) : pyIx (.lst xs) (.int i) = some x := by
  have hl := (List.getElem?_eq_some_iff.mp h).1
  rw [ix_lst]
  unfold atI ixN
  rw [if_pos (by omega), if_pos (by omega)]
  simpa using h
end TR

set_option Elab.async false
set_option linter.all false
set_option maxRecDepth 100000
/-! TRU: dict displays, constants of the top. -/
namespace TR
open PySem PySem.Spec L2
set_option autoImplicit false
section
variable {D : Wd} {W : WX} {X : Cx} {k v e : Expr} {pos p : Pos} {ks : List (Option Expr)} {vs : List Expr} {mk mv : EM PV}

/-! ### {k: v, ..} -/
def RepPs (D : Wd) (G : Hp) : List (PV × PV) → List (V × V) → Prop
  | [], ws => ws = []
  | (x, y) :: r, ws => ∃ a b t, ws = (a, b) :: t ∧ Rep D G x a ∧ Rep D G y b ∧ RepPs D G r t
def tPr (D : Wd) (W : WX) (m : EM (List (PV × PV))) : St → Hp → (List (V × V) → Hp → Prop) → Prop := fun σ H Q => ∃ G ρ, Abs D G H σ ρ ∧ Kg D W (m ρ) G H σ ρ fun ps ρ' G' H' => ∀ ws, RepPs D G' ps ws → Q ws H'
structure RPr (D : Wd) (W : WX) (X : Cx) (pos : Pos) (ks : List (Option Expr)) (vs : List Expr) (m : EM (List (PV × PV))) : Prop where
  ex : ∃ trs, PPs X pos ks vs trs ∧ ∀ σ H Q, tPr D W m σ H Q → tPairs trs σ H Q
def prN : EM (List (PV × PV)) := fun ρ => .ok [] ρ
def prC (mk mv : EM PV) (ms : EM (List (PV × PV))) : EM (List (PV × PV)) := fun ρ => (mk ρ).bind fun x ρ => (mv ρ).bind fun y ρ => (ms ρ).bind fun ps ρ => .ok ((x, y) :: ps) ρ
theorem rpr_nil : RPr D W X pos [] [] prN := ⟨[], pps_nil, fun σ H Q ⟨G, ρ, A, k⟩ => k G H (Nx.refl A) [] rfl⟩
theorem rpr_cons {ms : EM (List (PV × PV))} (hk : RE D W X k mk) (hv : RE D W X v mv) (hr : RPr D W X pos ks vs ms) : RPr D W X pos (some k :: ks) (v :: vs) (prC mk mv ms) := by
  obtain ⟨trs, h1, h2⟩ := hr.ex
  refine ⟨_, pps_cons hk hv h1, fun σ H Q ⟨G, ρ, A, k⟩ => ⟨G, ρ, A, (Kg.bind k).mono fun x ρ1 G1 H1 n1 k1 a ra => ⟨G1, ρ1, n1.abs, (Kg.bind k1).mono fun y ρ2 G2 H2 n2 k2 b rb => h2 σ H2 _ ⟨G2, ρ2, n2.abs, (Kg.bind k2).mono fun ps ρ3 G3 H3 n3 k3 ws rw' => ?_⟩⟩⟩⟩
  exact k3 G3 H3 (Nx.refl n3.abs) _ ⟨a, b, ws, rfl, (ra.mono n2.leg).mono n3.leg, rb.mono n3.leg, rw'⟩
def keysOf : List (PV × PV) → Option (List (Key × PV))
  | [] => some []
  | (x, y) :: r => match keyOf x, keysOf r with
    | some k, some t => some ((k, y) :: t)
    | _, _ => none
def mergeP (kvs more : List (Key × PV)) : List (Key × PV) := more.foldl (fun acc kv => dput acc kv.1 kv.2) kvs
theorem repd_merge {G : Hp} : ∀ {more : List (Key × PV)} {ws : List (Key × V)} {kvs : List (Key × PV)} {us : List (Key × V)}, RepD D G more ws → RepD D G kvs us → RepD D G (mergeP kvs more) (mergeK us ws)
  | [], _, kvs, us, h, k => by rw [show _ = [] from h]; exact k
  | (j, x) :: more, _, kvs, us, h, k => by
    obtain ⟨v, r, rfl, h1, h2⟩ := h
    show RepD D G (mergeP (dput kvs j x) more) (mergeK (putK us j v) r)
    exact repd_merge h2 (repd_put k h1)
theorem keysOf_rep {G H : Hp} (le : LeG G H) : ∀ {ps : List (PV × PV)} {ws : List (V × V)} {kvs : List (Key × PV)}, RepPs D G ps ws → keysOf ps = some kvs → ∃ us : List (Key × V), ws = us.map (fun kv => (kV kv.1, kv.2)) ∧ RepD D G kvs us ∧ us.length = kvs.length
  | [], _, _, h, e => by cases e; exact ⟨[], h, rfl, rfl⟩
  | (x, y) :: r, _, _, h, e => by
    obtain ⟨a, b, t, rfl, h1, h2, h3⟩ := h
    rw [keysOf] at e
    cases q1 : keyOf x with
    | none => rw [q1] at e; cases e
    | some key =>
      cases q2 : keysOf r with
      | none => rw [q1, q2] at e; cases e
      | some kvs =>
        rw [q1, q2] at e; cases e
        obtain ⟨us, rfl, k2, k3⟩ := keysOf_rep le h3 q2
        have hk := key_rep (H := H) q1 (h1.toH le)
        subst hk
        exact ⟨(key, b) :: us, rfl, ⟨b, us, rfl, h2, k2⟩, by simp [k3]⟩
def dctM (ms : EM (List (PV × PV))) : EM MO := fun ρ => (ms ρ).bind fun ps ρ => match keysOf ps with
  | some kvs => if kvs.length ≤ 15 then .ok (.dct (mergeP [] kvs)) ρ else .stuck
  | none => .stuck
def dct0 : EM MO := fun ρ => .ok (.dct []) ρ
theorem rn_dct0 : RN D W X (.Dict [] [] pos) dct0 := pe_dnewK.imp fun σ H Q ⟨G, ρ, A, k⟩ q hq => by
  exact new_own (mo := .dct []) (Nx.refl A) hq ⟨[], upd_same, rfl⟩ k
theorem free_of {G H : Hp} {σ : St} {ρ : Ev} {a : Addr} (A : Abs D G H σ ρ) (ha : H a = none) : G a = none ∧ ¬ Ow σ ρ a := by
  refine ⟨?_, fun w => ?_⟩
  · cases z : G a with
    | none => rfl
    | some u =>
      have z2 := A.le a u z
      rw [ha] at z2; cases z2
  · obtain ⟨⟨o, ho⟩, _⟩ := A.ow_some w
    rw [ha] at ho; cases ho
theorem rn_dct {ms : EM (List (PV × PV))} (h : RPr D W X pos (some k :: ks) (v :: vs) ms) (hall : (some k :: ks).all (·.isSome) = true := by rfl) (hl : (some k :: ks).length = (v :: vs).length := by rfl) (h15 : (some k :: ks).length ≤ 15 := by decide) :
    RN D W X (.Dict (some k :: ks) (v :: vs) pos) (dctM ms) := by
  obtain ⟨trs, h1, h2⟩ := h.ex
  refine (pe_disp h1 hall hl (fun z => nomatch z) h15).imp fun σ H Q ⟨G, ρ, A, k⟩ q hq => h2 σ _ _ ?_
  obtain ⟨gq, oq⟩ := free_of A hq
  have n0 : Nx D G H σ ρ G (upd H q (.dK [])) σ ρ := nx_new (Nx.refl A) hq gq oq
  refine ⟨G, ρ, n0.abs, ?_⟩
  unfold dctM at k
  cases e : ms ρ with
  | stuck => rw [e] at k; exact k
  | exc x ρ' =>
    rw [e] at k
    exact fun G' H' c d n er => k G' H' c d (n0.trans n) er
  | ok ps ρ1 =>
    rw [e] at k
    simp only [Out.bind_ok] at k
    intro G1 H1 n1 ws rw'
    have hq1 : H1 q = some (.dK []) := n1.k q _ upd_same oq
    have n2 := n0.trans n1
    have g1 : G1 q = none := by
      cases z : G1 q with
      | none => rfl
      | some u =>
        rcases n1.f q u z with w | w | w
        · rw [gq] at w; cases w
        · rw [upd_same] at w; cases w
        · exact absurd w.ow oq
    have o1 : ¬ Ow σ ρ1 q := fun w => by
      rcases n1.w q w with w | w
      · exact oq w
      · rw [upd_same] at w; cases w
    split at k
    · rename_i kvs ek
      split at k
      · rename_i hz
        obtain ⟨us, rfl, r1, r2⟩ := keysOf_rep n1.abs.le rw' ek
        refine ⟨hq1, us, rfl, by rw [r2]; exact hz, ?_⟩
        exact k G1 _ (nx_new n2 hq g1 o1) q g1 hq ⟨_, upd_same, repd_merge r1 rfl⟩ o1
      · exact False.elim k
    · exact False.elim k

/-! ### constants of the top -/
structure GlV (D : Wd) (mg : Str → Option Value) (x : Str) (y : PV) : Prop where
  ex : ∃ (u : Value) (v : V), mg x = some u ∧ RelV v u ∧ ∀ G, Rep D G y v
theorem re_glob {x : Str} {y : PV} (h : GlV D X.mg x y) (hg : Gl X x := by rfl) (hd : (x == ("__debug__" : Str)) = false := by decide) : RE D W X (.Name x p) (cst y) := by
  obtain ⟨u, v, h1, h2, h3⟩ := h.ex
  exact re_cst (pe_glob hg h1 h2 hd) h3
/-- a constant's value and its plain form -/
def KV1 (D : Wd) (u : Value) (y : PV) : Prop := ∃ v, RelV v u ∧ ∀ G, Rep D G y v
theorem kv_str {s : Str} {t : Tok} : KV1 D (.str s t) (.str s) := ⟨.str s, ⟨t, rfl⟩, fun _ => rfl⟩
theorem kv_int {s : Int} {t : Tok} : KV1 D (.int s t) (.int s) := ⟨.int s, ⟨t, rfl⟩, fun _ => rfl⟩
theorem kv_bl {s : Bool} : KV1 D (.bool s) (.bl s) := ⟨.bl s, rfl, fun _ => rfl⟩
theorem kv_non : KV1 D .none .non := ⟨.non, rfl, fun _ => rfl⟩
inductive KVs (D : Wd) : List Value → List PV → Prop
  | nil : KVs D [] []
  | cons {u : Value} {us : List Value} {y : PV} {ys : List PV} (h : KV1 D u y) (t : KVs D us ys) : KVs D (u :: us) (y :: ys)
theorem KVs.out {us : List Value} {ys : List PV} (h : KVs D us ys) : ∃ vs, Vals vs us ∧ (∀ G, Reps D G ys vs) ∧ us.length = ys.length := by
  induction h with
  | nil => exact ⟨[], .nil, fun _ => rfl, rfl⟩
  | cons h t ih =>
    obtain ⟨v, h1, h2⟩ := h
    obtain ⟨vs, h3, h4, h5⟩ := ih
    exact ⟨v :: vs, .cons h1 h3, fun G => ⟨v, vs, rfl, h2 G, h4 G⟩, by simp [h5]⟩
theorem kv_tup {a : Addr} {dd : Option Addr} {its : Array Value} {n : Nat} {sl : Array (Option Value)} {ys : List PV} (l : D.K.lookup a = some ⟨.type "tuple", dd, .seq its n, sl⟩) (h : KVs D its.toList ys) (hz : ys.length ≤ 1000) : KV1 D (.ref a) (.tup ys) := by
  obtain ⟨vs, h1, h2, h3⟩ := h.out
  refine ⟨.ref a, rfl, fun G => ⟨a, vs, rfl, .inr ⟨_, its, n, l, rfl, rfl, ?_, h1⟩, h2 G⟩⟩
  have : its.size = ys.length := by rw [← h3]; simp
  rw [this, sizeLine_eq]
  omega
theorem kv_lst {a : Addr} {its : Array Value} {n : Nat} {sl : Array (Option Value)} {ys : List PV} (l : D.K.lookup a = some ⟨.type "list", none, .seq its n, sl⟩) (h : KVs D its.toList ys) (hz : ys.length ≤ 1000) : KV1 D (.ref a) (.lst ys) := by
  obtain ⟨vs, h1, h2, h3⟩ := h.out
  refine ⟨.ref a, rfl, fun G => ⟨a, vs, rfl, .inr ⟨_, its, n, l, rfl, rfl, rfl, ?_, h1⟩, h2 G⟩⟩
  have : its.size = ys.length := by rw [← h3]; simp
  rw [this, sizeLine_eq]
  omega
theorem glv_mk {K : PySem.W.Frag} {h : Heap} {mg : Str → Option Value} {x : Str} {u : Value} {y : PV} (X : K.In h) (G : h.Ns mainGlobals mg) (a : PySem.W.nsIn K mainGlobals x = some (some u)) (k : KV1 D u y) : GlV D mg x y := by
  obtain ⟨v, h1, h2⟩ := k
  exact ⟨u, v, PySem.W.mg_of X G a, h1, h2⟩
/-! evaluation -/
@[simp] theorem ev_prN (ρ : Ev) : prN ρ = .ok [] ρ := (rfl)
def kP3 (x y : PV) : List (PV × PV) → Ev → Out (List (PV × PV)) := fun ps ρ => .ok ((x, y) :: ps) ρ
def kP2 (ms : EM (List (PV × PV))) (x : PV) : PV → Ev → Out (List (PV × PV)) := fun y ρ => (ms ρ).bind (kP3 x y)
def kP1 (mv : EM PV) (ms : EM (List (PV × PV))) : PV → Ev → Out (List (PV × PV)) := fun x ρ => (mv ρ).bind (kP2 ms x)
@[simp] theorem kP3_ (x y : PV) (ps : List (PV × PV)) (ρ : Ev) : kP3 x y ps ρ = .ok ((x, y) :: ps) ρ := (rfl)
@[simp] theorem kP2_ (ms : EM (List (PV × PV))) (x y : PV) (ρ : Ev) : kP2 ms x y ρ = (ms ρ).bind (kP3 x y) := (rfl)
@[simp] theorem kP1_ (mv : EM PV) (ms : EM (List (PV × PV))) (x : PV) (ρ : Ev) : kP1 mv ms x ρ = (mv ρ).bind (kP2 ms x) := (rfl)
@[simp] theorem ev_prC (mk mv : EM PV) (ms : EM (List (PV × PV))) (ρ : Ev) : prC mk mv ms ρ = (mk ρ).bind (kP1 mv ms) := (rfl)
def dck : Option (List (Key × PV)) → Ev → Out MO
  | some kvs, ρ => if kvs.length ≤ 15 then .ok (.dct (mergeP [] kvs)) ρ else .stuck
  | none, _ => .stuck
@[simp] theorem dck_ (kvs : List (Key × PV)) (ρ : Ev) : dck (some kvs) ρ = if kvs.length ≤ 15 then .ok (.dct (mergeP [] kvs)) ρ else .stuck := (rfl)
def kDc : List (PV × PV) → Ev → Out MO := fun ps ρ => dck (keysOf ps) ρ
@[simp] theorem kDc_ (ps : List (PV × PV)) (ρ : Ev) : kDc ps ρ = dck (keysOf ps) ρ := (rfl)
@[simp] theorem ev_dct (ms : EM (List (PV × PV))) (ρ : Ev) : dctM ms ρ = (ms ρ).bind kDc := by
  unfold dctM
  congr 1
  funext ps ρ
  rw [kDc_]
  unfold dck
  cases keysOf ps <;> rfl
@[simp] theorem ev_dct0 (ρ : Ev) : dct0 ρ = .ok (.dct []) ρ := (rfl)
end
end TR

set_option Elab.async false
set_option linter.all false
set_option maxRecDepth 100000
/-! TRV: == and in, of texts and lists of texts; loops that look for a first. -/
namespace TR
open PySem PySem.Spec L2
set_option autoImplicit false
@[simp] theorem eq_sn (s : Str) : pyEq (.str s) .non = some (.bl false) := (rfl)
@[simp] theorem eq_ns (s : Str) : pyEq .non (.str s) = some (.bl false) := (rfl)
@[simp] theorem eq_nn : pyEq .non .non = some (.bl true) := (rfl)
@[simp] theorem ne_sn (s : Str) : pyNe (.str s) .non = some (.bl true) := (rfl)
@[simp] theorem ne_ns (s : Str) : pyNe .non (.str s) = some (.bl true) := (rfl)
@[simp] theorem ne_nn : pyNe .non .non = some (.bl false) := (rfl)
/-- a text of real signs -/
def Uni (s : Str) : Prop := ∀ c ∈ L s, c < 1114112
theorem uni_ok {s : Str} (h : Uni s) : PySem.PyData.strOk s = true := by
  unfold PySem.PyData.strOk
  rw [Array.all_eq_true_iff_forall_mem]
  intro c hc
  exact decide_eq_true (h c (Array.mem_toList_iff.mpr hc))
theorem dat_str {s : Str} (h : Uni s) : (PV.str s).dat = some (.str s) := by
  have e : SeqAt.shaped (.str s) = true := by
    unfold SeqAt.shaped
    rw [Bool.and_eq_true]
    refine ⟨uni_ok h, ?_⟩
    rw [decide_eq_true_eq]
    exact Nat.zero_le _
  unfold PV.dat
  rw [PV.toD]
  simp only [e, if_true]
theorem toDs_strs : ∀ ss : List Str, toDs (ss.map .str) = some (ss.map .str)
  | [] => rfl
  | s :: ss => by rw [List.map_cons, toDs, PV.toD, toDs_strs ss]; rfl
theorem lay_strs : ∀ {ss : List Str}, (∀ s ∈ ss, Uni s) → PyData.canLayAll0 (ss.map .str) = true
  | [], _ => rfl
  | s :: ss, h => by
    rw [List.map_cons, PyData.canLayAll0, Bool.and_eq_true]
    exact ⟨uni_ok (h s List.mem_cons_self), lay_strs fun t ht => h t (List.mem_cons_of_mem _ ht)⟩
theorem dep_strs : ∀ {ss : List Str}, PyData.depthAll (ss.map .str) ≤ 1
  | [] => by simp [PyData.depthAll]
  | s :: ss => by
    rw [List.map_cons, PyData.depthAll]
    have := dep_strs (ss := ss)
    simp only [PyData.depth]
    omega
theorem any_strs {s : Str} : ∀ {ss : List Str}, ((ss.map PyData.str).any fun z => PyData.eqv z (.str s)) = decide (s ∈ ss)
  | [] => by simp
  | t :: ss => by
    rw [List.map_cons, List.any_cons, any_strs]
    simp only [PyData.eqv, List.mem_cons]
    by_cases h : t = s
    · subst h; simp
    · have h2 : ¬ s = t := fun e => h e.symm
      have h3 : (t == s) = false := by rw [beq_eq_false_iff_ne]; exact h
      simp [h2, h3]
theorem dat_tup {ss : List Str} (h : ∀ s ∈ ss, Uni s) : (PV.tup (ss.map .str)).dat = some (.tuple (ss.map .str)) := by
  unfold PV.dat
  rw [PV.toD, toDs_strs]
  have e : SeqAt.shaped (.tuple (ss.map PyData.str)) = true := by
    unfold SeqAt.shaped
    rw [Bool.and_eq_true]
    refine ⟨lay_strs h, ?_⟩
    rw [decide_eq_true_eq, PyData.depth]
    have := dep_strs (ss := ss)
    omega
  simp only [Option.map_some, e, if_true]
theorem dat_lst {ss : List Str} (h : ∀ s ∈ ss, Uni s) : (PV.lst (ss.map .str)).dat = some (.list (ss.map .str)) := by
  unfold PV.dat
  rw [PV.toD, toDs_strs]
  have e : SeqAt.shaped (.list (ss.map PyData.str)) = true := by
    unfold SeqAt.shaped
    rw [Bool.and_eq_true]
    refine ⟨lay_strs h, ?_⟩
    rw [decide_eq_true_eq, PyData.depth]
    have := dep_strs (ss := ss)
    omega
  simp only [Option.map_some, e, if_true]
theorem inQ_tup {s : Str} {ss : List Str} (hs : Uni s) (h : ∀ t ∈ ss, Uni t) : inQ (.str s) (.tup (ss.map .str)) = some (decide (s ∈ ss)) := by
  rw [inQ, dat_str hs, dat_tup h]
  simp only
  rw [any_strs]
theorem inQ_lst {s : Str} {ss : List Str} (hs : Uni s) (h : ∀ t ∈ ss, Uni t) : inQ (.str s) (.lst (ss.map .str)) = some (decide (s ∈ ss)) := by
  rw [inQ, dat_str hs, dat_lst h]
  simp only
  rw [any_strs]
theorem in_tup {s : Str} {ss : List Str} (hs : Uni s) (h : ∀ t ∈ ss, Uni t) : pyIn (.str s) (.tup (ss.map .str)) = some (.bl (decide (s ∈ ss))) := by
  unfold pyIn
  rw [inQ_tup hs h]
  rfl
theorem in_lst {s : Str} {ss : List Str} (hs : Uni s) (h : ∀ t ∈ ss, Uni t) : pyIn (.str s) (.lst (ss.map .str)) = some (.bl (decide (s ∈ ss))) := by
  unfold pyIn
  rw [inQ_lst hs h]
  rfl
@[simp] theorem in_sgn (c : Nat) (s : Str) : pyIn (.str ⟨#[c]⟩) (.str s) = some (.bl (decide (c ∈ L s))) := (rfl)
@[simp] theorem notin_sgn (c : Nat) (s : Str) : pyNotIn (.str ⟨#[c]⟩) (.str s) = some (.bl (!decide (c ∈ L s))) := (rfl)
/-- a loop that ends at the first item that does not do -/
theorem all_loop {tg : Tg} {body : SM} {ok : PV → Bool} (ρs : Ev → Prop) (r : Ret) (hit : ∀ x ρ, ρs ρ → ok x = false → ∃ ρ1 ρ2, tg x ρ = some ρ1 ∧ body ρ1 = .ret r ρ2 ∧ ρs ρ2) (go : ∀ x ρ, ρs ρ → ok x = true → ∃ ρ1 ρ2, tg x ρ = some ρ1 ∧ body ρ1 = .nxt ρ2 ∧ ρs ρ2) :
    ∀ (xs : List PV) (ρ : Ev), ρs ρ → ∃ ρ2, ρs ρ2 ∧ frL tg body xs ρ = if xs.all ok = true then .nxt ρ2 else .ret r ρ2
  | [], ρ, h => ⟨ρ, h, rfl⟩
  | x :: xs, ρ, h => by
    rw [frL]
    cases e : ok x with
    | false =>
      obtain ⟨ρ1, ρ2, e1, e2, h2⟩ := hit x ρ h e
      refine ⟨ρ2, h2, ?_⟩
      simp [e1, e2, e]
    | true =>
      obtain ⟨ρ1, ρ2, e1, e2, h2⟩ := go x ρ h e
      obtain ⟨ρ3, h3, e3⟩ := all_loop ρs r hit go xs ρ2 h2
      refine ⟨ρ3, h3, ?_⟩
      simp [e1, e2, e, e3]
/-- a comprehension that keeps the items that do -/
theorem filter_cmp {vs : List Nat} {tg : Tg} {t : EM Bool} {e : EM PV} {ok : PV → Bool} (ρ : Ev) (xs : List PV) (hz : xs.length ≤ 1000000) (st : ∀ x ∈ xs, ∃ ρ1, tg x (wipeE ρ vs) = some ρ1 ∧ t ρ1 = .ok (ok x) ρ1 ∧ e ρ1 = .ok x ρ1 ∧ restE ρ vs ρ1 = ρ) :
    cmpL vs tg t e xs [] ρ = .ok (xs.filter ok) ρ := by
  have sz := sizeLine_eq
  have key : ∀ (ys acc : List PV), (∀ x ∈ ys, x ∈ xs) → acc.length + ys.length ≤ 1000000 → cmpL vs tg t e ys acc ρ = .ok (acc ++ ys.filter ok) ρ := by
    intro ys
    induction ys with
    | nil => intro acc _ _; simp
    | cons x ys ih =>
      intro acc hm hl
      simp only [List.length_cons] at hl
      obtain ⟨ρ1, e1, e2, e3, e4⟩ := st x (hm x List.mem_cons_self)
      rw [cmpL]
      simp only [e1, e2, noX, Out.bind_ok]
      cases h : ok x with
      | true =>
        have : acc.length < sizeLine := by omega
        simp only [e3, Out.bind_ok, if_pos this, e4]
        rw [ih _ (fun y hy => hm y (List.mem_cons_of_mem _ hy)) (by simp; omega), List.filter_cons_of_pos h]
        simp
      | false =>
        simp only [e4]
        rw [ih _ (fun y hy => hm y (List.mem_cons_of_mem _ hy)) (by omega), List.filter_cons_of_neg (by simp [h])]
  have := key xs [] (fun _ h => h) (by simpa using hz)
  simpa using this
/-- .. over the signs of a text -/
theorem all_signs {tg : Tg} {body : SM} (p : Nat → Bool) (ρs : Ev → Prop) (r : Ret) (hit : ∀ c ρ, ρs ρ → p c = false → ∃ ρ1 ρ2, tg (.str ⟨#[c]⟩) ρ = some ρ1 ∧ body ρ1 = .ret r ρ2 ∧ ρs ρ2) (go : ∀ c ρ, ρs ρ → p c = true → ∃ ρ1 ρ2, tg (.str ⟨#[c]⟩) ρ = some ρ1 ∧ body ρ1 = .nxt ρ2 ∧ ρs ρ2) :
    ∀ (cs : List Nat) (ρ : Ev), ρs ρ → ∃ ρ2, ρs ρ2 ∧ frL tg body (chs cs) ρ = if cs.all p = true then .nxt ρ2 else .ret r ρ2
  | [], ρ, h => ⟨ρ, h, rfl⟩
  | c :: cs, ρ, h => by
    rw [show chs (c :: cs) = .str ⟨#[c]⟩ :: chs cs from rfl, frL]
    cases e : p c with
    | false =>
      obtain ⟨ρ1, ρ2, e1, e2, h2⟩ := hit c ρ h e
      refine ⟨ρ2, h2, ?_⟩
      simp [e1, e2, e]
    | true =>
      obtain ⟨ρ1, ρ2, e1, e2, h2⟩ := go c ρ h e
      obtain ⟨ρ3, h3, e3⟩ := all_signs p ρs r hit go cs ρ2 h2
      refine ⟨ρ3, h3, ?_⟩
      simp [e1, e2, e, e3]
theorem filter_signs {vs : List Nat} {tg : Tg} {t : EM Bool} {e : EM PV} (p : Nat → Bool) (ρ : Ev) (cs : List Nat) (hz : cs.length ≤ 1000000) (st : ∀ c ∈ cs, ∃ ρ1, tg (.str ⟨#[c]⟩) (wipeE ρ vs) = some ρ1 ∧ t ρ1 = .ok (p c) ρ1 ∧ e ρ1 = .ok (.str ⟨#[c]⟩) ρ1 ∧ restE ρ vs ρ1 = ρ) :
    cmpL vs tg t e (chs cs) [] ρ = .ok (chs (cs.filter p)) ρ := by
  have sz := sizeLine_eq
  have key : ∀ (ys acc : List Nat), (∀ x ∈ ys, x ∈ cs) → acc.length + ys.length ≤ 1000000 → cmpL vs tg t e (chs ys) (chs acc) ρ = .ok (chs (acc ++ ys.filter p)) ρ := by
    intro ys
    induction ys with
    | nil => intro acc _ _; simp
    | cons x ys ih =>
      intro acc hm hl
      simp only [List.length_cons] at hl
      obtain ⟨ρ1, e1, e2, e3, e4⟩ := st x (hm x List.mem_cons_self)
      rw [show chs (x :: ys) = .str ⟨#[x]⟩ :: chs ys from rfl, cmpL]
      simp only [e1, e2, noX, Out.bind_ok]
      cases h : p x with
      | true =>
        have : (chs acc).length < sizeLine := by rw [chs_len]; omega
        simp only [e3, Out.bind_ok, if_pos this, e4, chs_snoc]
        rw [ih _ (fun y hy => hm y (List.mem_cons_of_mem _ hy)) (by simp; omega), List.filter_cons_of_pos h]
        simp
      | false =>
        simp only [e4]
        rw [ih _ (fun y hy => hm y (List.mem_cons_of_mem _ hy)) (by omega), List.filter_cons_of_neg (by simp [h])]
  have := key cs [] (fun _ h => h) (by simpa using hz)
  simpa using this
theorem filter_len {p : Nat → Bool} : ∀ {cs : List Nat}, (decide (((cs.filter fun c => !p c).length : Int) = 0)) = cs.all p
  | [] => by simp
  | c :: cs => by
    cases h : p c with
    | true =>
      rw [List.filter_cons_of_neg (by simp [h]), filter_len, List.all_cons, h, Bool.true_and]
    | false =>
      rw [List.filter_cons_of_pos (by simp [h]), List.all_cons, h, Bool.false_and]
      simp only [List.length_cons]
      exact decide_eq_false (by omega)
theorem filter_nil {p : Nat → Bool} {cs : List Nat} : (decide ((cs.filter fun c => !p c) = [])) = cs.all p := by
  rw [← filter_len]
  rw [decide_eq_decide]
  constructor
  · intro h; rw [h]; rfl
  · intro h; exact List.eq_nil_of_length_eq_zero (by omega)
/-! a < b < c -/
def kX4 (g' : PV → PV → Option PV) (y : PV) : PV → Ev → Out PV := fun w ρ => lift (g' y w) ρ
def kX5 (g' : PV → PV → Option PV) (c : EM PV) (y : PV) : EM PV := fun ρ => (c ρ).bind (kX4 g' y)
def kX3 (g' : PV → PV → Option PV) (c : EM PV) (y : PV) : PV → Ev → Out PV
  | .bl b, ρ => br b (kX5 g' c y) (cst (.bl false)) ρ
  | _, _ => .stuck
def kX2 (g g' : PV → PV → Option PV) (c : EM PV) (x : PV) : PV → Ev → Out PV := fun y ρ => (lift (g x y) ρ).bind (kX3 g' c y)
def kX1 (g g' : PV → PV → Option PV) (b c : EM PV) : PV → Ev → Out PV := fun x ρ => (b ρ).bind (kX2 g g' c x)
@[simp] theorem kX4_ (g' : PV → PV → Option PV) (y w : PV) (ρ : Ev) : kX4 g' y w ρ = lift (g' y w) ρ := (rfl)
@[simp] theorem kX5_ (g' : PV → PV → Option PV) (c : EM PV) (y : PV) (ρ : Ev) : kX5 g' c y ρ = (c ρ).bind (kX4 g' y) := (rfl)
@[simp] theorem kX3_ (g' : PV → PV → Option PV) (c : EM PV) (y : PV) (b : Bool) (ρ : Ev) : kX3 g' c y (.bl b) ρ = br b (kX5 g' c y) (cst (.bl false)) ρ := (rfl)
@[simp] theorem kX2_ (g g' : PV → PV → Option PV) (c : EM PV) (x y : PV) (ρ : Ev) : kX2 g g' c x y ρ = (lift (g x y) ρ).bind (kX3 g' c y) := (rfl)
@[simp] theorem kX1_ (g g' : PV → PV → Option PV) (b c : EM PV) (x : PV) (ρ : Ev) : kX1 g g' b c x ρ = (b ρ).bind (kX2 g g' c x) := (rfl)
@[simp] theorem ev_chn (g g' : PV → PV → Option PV) (a b c : EM PV) (ρ : Ev) : chn g g' a b c ρ = (a ρ).bind (kX1 g g' b c) := by
  unfold chn kX1 kX2
  congr 1
  funext x ρ
  congr 1
  funext y ρ
  congr 1
  funext z ρ
  cases z with
  | bl b => cases b <;> rfl
  | _ => rfl
end TR

set_option Elab.async false
set_option linter.all false
set_option maxRecDepth 100000
/-! TRW: own classes: fields, methods, new instances. -/
namespace TR
open PySem PySem.Spec L2
set_option autoImplicit false
def putFP (f : Str) (x : PV) : List (Str × PV) → List (Str × PV)
  | [] => [(f, x)]
  | (g, y) :: r => if g = f then (g, x) :: r else (g, y) :: putFP f x r
section
variable {D : Wd} {W : WX} {X : Cx} {e o : Expr} {es : List Expr} {pos p p2 apos : Pos} {m mo : EM PV} {ms : EM (List AV)} {G G' H H' : Hp}
theorem repf_len : ∀ {fs : List (Str × PV)} {ws : List (Str × V)}, RepF D G fs ws → ws.length = fs.length
  | [], _, h => by rw [show _ = [] from h]; rfl
  | (k, x) :: fs, _, h => by
    obtain ⟨v, r, rfl, h1, h2⟩ := h
    simp [repf_len h2]
theorem lookup_cons' {α : Type} (f g : Str) (x : α) (r : List (Str × α)) : ((g, x) :: r).lookup f = if g = f then some x else r.lookup f := by
  rw [List.lookup_cons]
  by_cases h : g = f
  · subst h; simp
  · have : (f == g) = false := by rw [beq_eq_false_iff_ne]; exact fun e => h e.symm
    rw [this, if_neg h]
theorem repf_some {f : Str} {x : PV} : ∀ {fs : List (Str × PV)} {ws : List (Str × V)}, RepF D G fs ws → fs.lookup f = some x → ∃ v, ws.lookup f = some v ∧ Rep D G x v
  | [], _, _, e => by cases e
  | (k, y) :: fs, _, h, e => by
    obtain ⟨v, r, rfl, h1, h2⟩ := h
    rw [lookup_cons'] at e ⊢
    by_cases q : k = f
    · rw [if_pos q] at e ⊢; cases e; exact ⟨v, rfl, h1⟩
    · rw [if_neg q] at e ⊢; exact repf_some h2 e
theorem repf_none {f : Str} : ∀ {fs : List (Str × PV)} {ws : List (Str × V)}, RepF D G fs ws → fs.lookup f = none → ws.lookup f = none
  | [], _, h, _ => by rw [show _ = [] from h]; rfl
  | (k, y) :: fs, _, h, e => by
    obtain ⟨v, r, rfl, h1, h2⟩ := h
    rw [lookup_cons'] at e ⊢
    by_cases q : k = f
    · rw [if_pos q] at e; cases e
    · rw [if_neg q] at e ⊢; exact repf_none h2 e
theorem repf_put {f : Str} {x : PV} {v : V} (r0 : Rep D G x v) : ∀ {fs : List (Str × PV)} {ws : List (Str × V)}, RepF D G fs ws → RepF D G (putFP f x fs) (putF f v ws)
  | [], _, h => by rw [show _ = [] from h]; exact ⟨v, [], rfl, r0, rfl⟩
  | (k, y) :: fs, _, h => by
    obtain ⟨u, r, rfl, h1, h2⟩ := h
    rw [putFP, putF]
    by_cases q : k = f
    · rw [if_pos q, if_pos q]; exact ⟨v, r, rfl, r0, h2⟩
    · rw [if_neg q, if_neg q]; exact ⟨u, _, rfl, h1, repf_put r0 h2⟩

/-! ### fields -/
/-- the classes of that number have no attribute of that name -/
structure CF (D : Wd) (f : Str) (c : Nat) : Prop where
  h : ∀ C, D.T c C → Cls D.K C ∧ NoAttr D.K C f
def CFs (D : Wd) (f : Str) (cs : List Nat) : Prop := ∀ c ∈ cs, CF D f c
theorem cfs_nil {f : Str} : CFs D f [] := fun c h => by cases h
theorem cfs_cons {f : Str} {c : Nat} {cs : List Nat} (h : CF D f c) (t : CFs D f cs) : CFs D f (c :: cs) := fun d hd => by
  rcases List.mem_cons.mp hd with rfl | hd
  · exact h
  · exact t d hd
def fldQ (cs : List Nat) (f : Str) : PV → Option PV
  | .obj c fs => if c ∈ cs then fs.lookup f else none
  | _ => none
def fldM (cs : List Nat) (f : Str) (m : EM PV) : EM PV := fun ρ => (m ρ).bind fun x ρ => lift (fldQ cs f x) ρ
theorem re_fld {cs : List Nat} {f : Str} (hK : D.K = X.K) (h : RP D W X e m) (hc : CFs D f cs) (hb : attributeBase e f X.env (eval e X.env) = eval e X.env := by rfl) : RE D W X (.Attribute e f pos) (fldM cs f m) :=
  (pe_fld h hb).imp fun σ H Q ⟨G, ρ, A, k⟩ => ⟨G, ρ, A, (Kg.bind k).mono fun x ρ1 G1 H1 n1 k1 v rv => by
    obtain ⟨y, e1, g⟩ := Kg.lift n1.abs k1
    unfold fldQ at e1
    split at e1
    · rename_i c fs
      split at e1
      · rename_i hm
        obtain ⟨a, C, dx, ws, rfl, ha, t, r⟩ := rv
        obtain ⟨u, h1, h2⟩ := repf_some r e1
        obtain ⟨c1, c2⟩ := (hc c hm).h C t
        exact ⟨a, C, dx, ws, u, rfl, ha, hK ▸ c1, hK ▸ c2, h1, g G1 H1 (Grow.refl n1.abs.le) u h2⟩
      · cases e1
    · cases e1⟩
def setFld (i : Nat) (cs : List Nat) (f : Str) (m : EM PV) : SM := fun ρ => (m ρ).to fun x ρ => (peek i ρ).to fun _ ρ => match ρ[i]? with
  | some (.own b (.obj c fs)) => if c ∈ cs ∧ fs.length < 1000 then .nxt (ρ.set i (.own b (.obj c (putFP f x fs)))) else .stuck
  | _ => .stuck
theorem s_fld {i : Nat} {cs : List Nat} {f : Str} {pos' : Pos} (hK : D.K = X.K) (ho : PE X o (tVar i)) (hc : CFs D f cs) (hv : RE D W X e m) (hs : swapsWith e (some (.Attribute o f pos')) pos.line X.env = pure false := by rfl) : RS D W X (.Assign [.Attribute o f pos'] e pos) (setFld i cs f m) :=
  (ps_fld ho hv hs).imp fun E σ H ⟨G, ρ, A, k⟩ => ⟨G, ρ, A, (Ks.to k).mono fun x ρ1 G1 H1 n1 k1 v rv => by
    obtain ⟨y, w, ew, rw', k2⟩ := peek_ok n1.abs (Ks.to k1)
    refine ⟨w, ew, ?_⟩
    split at k2
    · rename_i b c fs em
      split at k2
      · rename_i hm
        obtain ⟨ad, e1, g, C, dx, ws, ha, t, r⟩ := n1.abs.own em
        rw [ew] at e1; cases e1
        obtain ⟨c1, c2⟩ := (hc c hm.1).h C t
        exact ⟨ad, C, dx, ws, rfl, ha, hK ▸ c1, hK ▸ c2, by rw [repf_len r]; exact hm.2, k2 G1 _ σ (nx_upd n1.abs em ew ⟨C, dx, _, upd_same, t, repf_put rv r⟩)⟩
      · exact False.elim k2
    · exact False.elim k2⟩

/-! ### methods -/
/-- self, as an argument -/
def selfV (m : EM PV) : EM AV := fun ρ => (m ρ).bind fun x ρ => .ok (.v x) ρ
def selfN (i : Nat) : EM AV := fun ρ => (peek i ρ).bind fun _ ρ => .ok (.s i) ρ
def tSf (D : Wd) (W : WX) (m : EM AV) : TE := fun σ H Q => ∃ G ρ, Abs D G H σ ρ ∧ Kg D W (m ρ) G H σ ρ fun a ρ' G' H' => ∀ v, AVs D G' σ [a] [v] → Q v H'
abbrev RSf (D : Wd) (W : WX) (X : Cx) (e : Expr) (m : EM AV) : Prop := PE X e (tSf D W m)
theorem rs_v (h : RE D W X e m) : RSf D W X e (selfV m) := h.imp fun σ H Q ⟨G, ρ, A, k⟩ => ⟨G, ρ, A, (Kg.bind k).mono fun x ρ1 G1 H1 n1 k1 v rv => k1 G1 H1 (Nx.refl n1.abs) v ⟨v, [], rfl, rv, rfl⟩⟩
theorem rs_n (i : Nat) (h : PE X e (tVar i)) : RSf D W X e (selfN i) := h.imp fun σ H Q ⟨G, ρ, A, k⟩ => by
  obtain ⟨x, v, ev, r0, k0⟩ := peek_ok A (Kg.bind k)
  exact ⟨v, ev, k0 G H (Nx.refl A) v ⟨v, [], rfl, ev, rfl⟩⟩
def clsQ : PV → Option (Nat × List (Str × PV))
  | .obj c fs => some (c, fs)
  | _ => none
def clsOf (a : AV) (ρ : Ev) : Option (Nat × List (Str × PV)) := match a with
  | .v x => clsQ x
  | .s i => match ρ[i]? with
    | some s => s.peek.bind clsQ
    | none => none
def mthF (tbl : List (Nat × FM)) (nm : Str) (sf : EM AV) (ms : EM (List AV)) : EM Ret := fun ρ => (sf ρ).bind fun a ρ => match clsOf a ρ with
  | some (c, fs) => (match tbl.lookup c, fs.lookup nm with
    | some f, none => (ms ρ).bind fun as ρ => applyF f (a :: as) ρ
    | _, _ => .stuck)
  | none => .stuck
def mthE (tbl : List (Nat × FM)) (nm : Str) (sf : EM AV) (ms : EM (List AV)) : EM PV := fun ρ => (mthF tbl nm sf ms ρ).bind fun r ρ => .ok r.pv ρ
def mthO (tbl : List (Nat × FM)) (nm : Str) (sf : EM AV) (ms : EM (List AV)) : EM MO := fun ρ => (mthF tbl nm sf ms ρ).bind fun r ρ => match r with
  | .o m => .ok m ρ
  | .v _ => .stuck
/-- the method of that name of the class of that number keeps to its pure meaning -/
structure MtAt (P : Program) (w : World) (K : PySem.W.Frag) (mg : Str → Option Value) (base : Heap) (D : Wd) (k : Nat) (nm : Str) (c : Nat) (fm : FM) : Prop where
  h : ∀ C, D.T c C → ∃ (f : Addr) (fd : FuncData) (ps : List Str), Cls K C ∧ Meth K C nm f ∧ Binds K fd ps [] ∧ FnOk P w K mg base (L2.CX P w) k f fd ps (FSp D fm)
theorem MtAt.mono {P : Program} {w : World} {K : PySem.W.Frag} {mg : Str → Option Value} {base : Heap} {j k : Nat} {nm : Str} {c : Nat} {fm : FM} (h : MtAt P w K mg base D j nm c fm) (l : j ≤ k) : MtAt P w K mg base D k nm c fm :=
  ⟨fun C t => let ⟨f, fd, ps, a, b, d, F⟩ := h.h C t; ⟨f, fd, ps, a, b, d, F.mono l⟩⟩
def TblAt (P : Program) (w : World) (K : PySem.W.Frag) (mg : Str → Option Value) (base : Heap) (D : Wd) (k : Nat) (nm : Str) (tbl : List (Nat × FM)) : Prop := ∀ c fm, tbl.lookup c = some fm → MtAt P w K mg base D k nm c fm
theorem tbl_nil {P : Program} {w : World} {K : PySem.W.Frag} {mg : Str → Option Value} {base : Heap} {k : Nat} {nm : Str} : TblAt P w K mg base D k nm [] := fun c fm e => by cases e
theorem tbl_cons {P : Program} {w : World} {K : PySem.W.Frag} {mg : Str → Option Value} {base : Heap} {k : Nat} {nm : Str} {c : Nat} {fm : FM} {tbl : List (Nat × FM)} (h : MtAt P w K mg base D k nm c fm) (t : TblAt P w K mg base D k nm tbl) : TblAt P w K mg base D k nm ((c, fm) :: tbl) := fun d g e => by
  rw [List.lookup_cons] at e
  by_cases q : d = c
  · subst q
    simp at e
    subst e
    exact h
  · have : (d == c) = false := by rw [beq_eq_false_iff_ne]; exact q
    rw [this] at e
    exact t d g e
/-- what a method's call asks -/
def tMtA (X : Cx) (W : WX) (nm : Str) (ts : TE) (ta : TA) : TE := fun σ H Q => ts σ H fun x H1 => ∃ (a C dx : Addr) (fs : List (Str × V)) (k : Nat) (f : Addr) (fd : FuncData) (ps : List Str) (sp : Sp), x = .ref a ∧ H1 a = some (.ins C dx fs) ∧ fs.lookup nm = none ∧ Cls X.K C ∧ Meth X.K C nm f ∧ Binds X.K fd ps [] ∧
  FnOk X.prog X.w X.K X.mg X.base (L2.CX X.prog X.w) k f fd ps sp ∧ Room k X.A ∧ ta σ H1 fun vs H2 => sp (x :: vs) H2 Q (WE W σ)
theorem pe_mtA {nm : Str} {ts : TE} {ta : TA} {pl : Sem Bool} (tk : Takes X W) (ho : PE X o ts) (ha : PA X (e :: es) ta)
    (hst : starEach (e :: es) X.env = (false, eval e X.env) :: starEach es X.env := by rfl) (hpl : (backTo pos (starEach es X.env)).any (·.1) = false := by rfl)
    (ht : eval (.Call (.Attribute o nm apos) (e :: es) [] pos) X.env = (do let ov ← eval o X.env; standAt apos.atName; let (f, first) ← holding [ov] (getMethod ov nm pl); callWith pos f first (backTo pos (starEach (e :: es) X.env)) (backToKw pos (keywordEach [] X.env))) := by rfl) :
    PE X (.Call (.Attribute o nm apos) (e :: es) [] pos) (tMtA X W nm ts ta) := ⟨fun pins s σ H Q I h => by
  refine PySem.W.methodCall_KW (pl := pl) (thn (ho.run pins s σ H _ I h) fun u s1 hx => ?_) ht
  obtain ⟨x, H1, I1, rx, a, C, dx, fs, k, f, fd, ps, sp, rfl, ea, l, c, hm, hb, F, hr, q⟩ := hx
  cases rx
  refine getmeth_ok I1 ea c hm l (PySem.W.callWith_K (first := [.ref a]) (h₀ := X.base) I1.ok.mod.kin hm.kp (thn (ha.run pos pins s1 σ H1 _ I1 q) fun us s2 hy => ?_) hst hpl)
  obtain ⟨vs, H2, I2, r, q2⟩ := hy
  exact ⟨I2.kIn, run_fnSD (E := WE W) (us := .ref a :: us) (vs := .ref a :: vs) (dvs := []) (ds := []) F hr hb .nil (passAt tk σ) I2 (.cons rfl r) (by rw [List.append_nil]; exact q2)⟩⟩
theorem pe_mtA0 {nm : Str} {ts : TE} {pl : Sem Bool} (tk : Takes X W) (ho : PE X o ts)
    (ht : eval (.Call (.Attribute o nm apos) [] [] pos) X.env = (do let ov ← eval o X.env; standAt apos.atName; let (f, first) ← holding [ov] (getMethod ov nm pl); callWith pos f first (backTo pos (starEach [] X.env)) (backToKw pos (keywordEach [] X.env))) := by rfl) :
    PE X (.Call (.Attribute o nm apos) [] [] pos) (tMtA X W nm ts tNil) := ⟨fun pins s σ H Q I h => by
  refine PySem.W.methodCall_KW (pl := pl) (thn (ho.run pins s σ H _ I h) fun u s1 hx => ?_) ht
  obtain ⟨x, H1, I1, rx, a, C, dx, fs, k, f, fd, ps, sp, rfl, ea, l, c, hm, hb, F, hr, q⟩ := hx
  cases rx
  exact getmeth_ok I1 ea c hm l (PySem.W.callWith_K0 (first := [.ref a]) I1.kIn hm.kp (run_fnSD (E := WE W) (us := [.ref a]) (vs := [.ref a]) (dvs := []) (ds := []) F hr hb .nil (passAt tk σ) I1 (.cons rfl .nil) q))⟩
theorem mth_le {tbl : List (Nat × FM)} {nm : Str} {sf : EM AV} {k : Nat} (T : TblAt X.prog X.w X.K X.mg X.base D k nm tbl) (hr : Room k X.A) (σ : St) (H : Hp) (Q : VK) (G : Hp) (ρ : Ev) (A : Abs D G H σ ρ) {P : Ret → Ev → Hp → Hp → Prop} (h : Kg D W (mthF tbl nm sf ms ρ) G H σ ρ P)
    (q : ∀ (G1 H1 : Hp) (ρ1 : Ev), Abs D G1 H1 σ ρ1 → (∀ b, H1 b = none → H b = none) → ∀ r ρ' G' H' v, Nx D G1 H1 σ ρ1 G' H' σ ρ' → (∀ a, Ow σ ρ' a → Ow σ ρ1 a) → (∀ G' H', Nx D G1 H1 σ ρ1 G' H' σ ρ' → P r ρ' G' H') → RRep D G1 H1 G' H' r v → Q v H') :
    tMtA X W nm (tSf D W sf) (tA D W ms) σ H Q := by
  refine ⟨G, ρ, A, (Kg.bind h).mono fun a ρ1 G1 H1 n1 k1 v rv => ?_⟩
  split at k1
  · rename_i c fs ec
    split at k1
    · rename_i f et el
      -- the instance
      obtain ⟨ad, C, dx, ws, rfl, hi, t, rf⟩ : ∃ (ad C dx : Addr) (ws : List (Str × V)), v = .ref ad ∧ H1 ad = some (.ins C dx ws) ∧ D.T c C ∧ RepF D G1 fs ws := by
        cases a with
        | v x =>
          obtain ⟨w, r, e1, e2, _⟩ := rv
          cases e1
          unfold clsOf clsQ at ec
          simp only at ec
          split at ec
          · cases ec
            obtain ⟨ad, C, dx, ws, e3, e4, e5, e6⟩ := e2
            exact ⟨ad, C, dx, ws, e3, n1.abs.le _ _ e4, e5, e6⟩
          · cases ec
        | s i =>
          obtain ⟨w, r, e1, e2, _⟩ := rv
          cases e1
          unfold clsOf at ec
          simp only at ec
          split at ec
          · rename_i sl es
            cases hp : sl.peek with
            | none => rw [hp] at ec; cases ec
            | some x =>
              rw [hp] at ec
              unfold clsQ at ec
              simp only [Option.bind_some] at ec
              split at ec
              · cases ec
                obtain ⟨w', e3, e4⟩ := peek_rep n1.abs es hp
                rw [e2] at e3; cases e3
                exact e4
              · cases ec
          · cases ec
      obtain ⟨fa, fd, ps, h1, h2, h3, h4⟩ := (T c f et).h C t
      refine ⟨ad, C, dx, ws, k, fa, fd, ps, FSp D f, rfl, hi, repf_none rf el, h1, h2, h3, h4, hr, G1, ρ1, n1.abs, (Kg.bind k1).mono fun as ρ2 G2 H2 n2 k2 vs rs => ?_⟩
      have ra : AVs D G2 σ (a :: as) (.ref ad :: vs) := by
        cases a with
        | v x =>
          obtain ⟨w, r, e1, e2, _⟩ := rv
          cases e1
          exact ⟨_, vs, rfl, e2.mono n2.leg, rs⟩
        | s i =>
          obtain ⟨w, r, e1, e2, _⟩ := rv
          cases e1
          exact ⟨_, vs, rfl, e2, rs⟩
      exact call_sp n2.abs ra k2 (q G2 H2 ρ2 n2.abs fun b hb => n1.d b (n2.d b hb))
    · exact False.elim k1
  · exact False.elim k1
theorem mthE_le {tbl : List (Nat × FM)} {nm : Str} {sf : EM AV} {k : Nat} (T : TblAt X.prog X.w X.K X.mg X.base D k nm tbl) (hr : Room k X.A) (σ : St) (H : Hp) (Q : VK) (h : tE D W (mthE tbl nm sf ms) σ H Q) : tMtA X W nm (tSf D W sf) (tA D W ms) σ H Q := by
  obtain ⟨G, ρ, A, k⟩ := h
  refine mth_le T hr σ H Q G ρ A (Kg.map k) fun G1 H1 ρ1 A1 _ r ρ' G' H' v n2 w p rr => ?_
  cases r with
  | v x => exact p G' H' n2 v rr
  | o mo =>
    obtain ⟨a, rfl, ga, ha, rm⟩ := rr
    obtain ⟨G2, n3, r3⟩ := nx_freeze n2 ga ha rm (ret_free A1 ha w)
    exact p G2 H' n3 _ r3
theorem mthO_le {tbl : List (Nat × FM)} {nm : Str} {sf : EM AV} {k : Nat} (T : TblAt X.prog X.w X.K X.mg X.base D k nm tbl) (hr : Room k X.A) (σ : St) (H : Hp) (Q : VK) (h : tN D W (mthO tbl nm sf ms) σ H Q) : tMtA X W nm (tSf D W sf) (tA D W ms) σ H Q := by
  obtain ⟨G, ρ, A, k⟩ := h
  have k' : Kg D W (mthF tbl nm sf ms ρ) G H σ ρ fun r ρ' G' H' => match r with
    | .v _ => False
    | .o mo => ∀ a, G' a = none → H a = none → MRep D G' H' a mo → ¬ Ow σ ρ' a → Q (.ref a) H' := by
    unfold mthO at k
    cases hq : mthF tbl nm sf ms ρ with
    | stuck => rw [hq] at k; exact k
    | exc e ρ' => rw [hq] at k; exact k
    | ok r ρ' =>
      rw [hq] at k
      cases r with
      | v x => exact False.elim k
      | o mo => exact k
  refine mth_le T hr σ H Q G ρ A k' fun G1 H1 ρ1 A1 hd r ρ' G' H' v n2 w p rr => ?_
  cases r with
  | v x => exact False.elim (p G' H' n2)
  | o mo =>
    obtain ⟨a, rfl, ga, ha, rm⟩ := rr
    exact p G' H' n2 a ga (hd a ha) rm (ret_free A1 ha w)
section
variable {tbl : List (Nat × FM)} {nm : Str} {sf : EM AV} {k : Nat} {pl : Sem Bool}
theorem re_mth (T : TblAt X.prog X.w X.K X.mg X.base D k nm tbl) (hr : Room k X.A) (tk : Takes X W) (ho : RSf D W X o sf) (ha : RA D W X (e :: es) ms)
    (hst : starEach (e :: es) X.env = (false, eval e X.env) :: starEach es X.env := by rfl) (hpl : (backTo pos (starEach es X.env)).any (·.1) = false := by rfl)
    (ht : eval (.Call (.Attribute o nm apos) (e :: es) [] pos) X.env = (do let ov ← eval o X.env; standAt apos.atName; let (f, first) ← holding [ov] (getMethod ov nm pl); callWith pos f first (backTo pos (starEach (e :: es) X.env)) (backToKw pos (keywordEach [] X.env))) := by rfl) :
    RE D W X (.Call (.Attribute o nm apos) (e :: es) [] pos) (mthE tbl nm sf ms) := (pe_mtA tk ho ha hst hpl ht).imp (mthE_le T hr)
theorem rn_mth (T : TblAt X.prog X.w X.K X.mg X.base D k nm tbl) (hr : Room k X.A) (tk : Takes X W) (ho : RSf D W X o sf) (ha : RA D W X (e :: es) ms)
    (hst : starEach (e :: es) X.env = (false, eval e X.env) :: starEach es X.env := by rfl) (hpl : (backTo pos (starEach es X.env)).any (·.1) = false := by rfl)
    (ht : eval (.Call (.Attribute o nm apos) (e :: es) [] pos) X.env = (do let ov ← eval o X.env; standAt apos.atName; let (f, first) ← holding [ov] (getMethod ov nm pl); callWith pos f first (backTo pos (starEach (e :: es) X.env)) (backToKw pos (keywordEach [] X.env))) := by rfl) :
    RN D W X (.Call (.Attribute o nm apos) (e :: es) [] pos) (mthO tbl nm sf ms) := (pe_mtA tk ho ha hst hpl ht).imp (mthO_le T hr)
theorem tMt_nil {ts : TE} {σ : St} {H : Hp} {Q : VK} (h : tMtA X W nm ts (tA D W argNil) σ H Q) (hi : ∀ σ H P P', (∀ x H', P x H' → P' x H') → ts σ H P → ts σ H P') : tMtA X W nm ts tNil σ H Q :=
  hi σ H _ _ (fun x H' hx => by
    obtain ⟨a, C, dx, fs, k, f, fd, ps, sp, h1, h2, h3, h4, h5, h6, h7, h8, G, ρ, A, kk⟩ := hx
    exact ⟨a, C, dx, fs, k, f, fd, ps, sp, h1, h2, h3, h4, h5, h6, h7, h8, kk G H' (Nx.refl A) [] rfl⟩) h
theorem tSf_mono {σ : St} {H : Hp} {P P' : VK} (i : ∀ x H', P x H' → P' x H') (h : tSf D W sf σ H P) : tSf D W sf σ H P' := by
  obtain ⟨G, ρ, A, k⟩ := h
  exact ⟨G, ρ, A, k.mono fun a ρ' G' H' n f v r => i v H' (f v r)⟩
theorem re_mth0 (T : TblAt X.prog X.w X.K X.mg X.base D k nm tbl) (hr : Room k X.A) (tk : Takes X W) (ho : RSf D W X o sf)
    (ht : eval (.Call (.Attribute o nm apos) [] [] pos) X.env = (do let ov ← eval o X.env; standAt apos.atName; let (f, first) ← holding [ov] (getMethod ov nm pl); callWith pos f first (backTo pos (starEach [] X.env)) (backToKw pos (keywordEach [] X.env))) := by rfl) :
    RE D W X (.Call (.Attribute o nm apos) [] [] pos) (mthE tbl nm sf argNil) := (pe_mtA0 tk ho ht).imp fun σ H Q h => tMt_nil (mthE_le T hr σ H Q h) fun _ _ _ _ i h => tSf_mono i h
theorem rn_mth0 (T : TblAt X.prog X.w X.K X.mg X.base D k nm tbl) (hr : Room k X.A) (tk : Takes X W) (ho : RSf D W X o sf)
    (ht : eval (.Call (.Attribute o nm apos) [] [] pos) X.env = (do let ov ← eval o X.env; standAt apos.atName; let (f, first) ← holding [ov] (getMethod ov nm pl); callWith pos f first (backTo pos (starEach [] X.env)) (backToKw pos (keywordEach [] X.env))) := by rfl) :
    RN D W X (.Call (.Attribute o nm apos) [] [] pos) (mthO tbl nm sf argNil) := (pe_mtA0 tk ho ht).imp fun σ H Q h => tMt_nil (mthO_le T hr σ H Q h) fun _ _ _ _ i h => tSf_mono i h
end
end
end TR

set_option Elab.async false
set_option linter.all false
set_option maxRecDepth 100000
/-! TRX: new instances, isinstance of own classes, what stays open. -/
namespace TR
open PySem PySem.Spec L2
set_option autoImplicit false
section
variable {D : Wd} {W : WX} {X : Cx} {e o : Expr} {es : List Expr} {pos p p2 p3 : Pos} {m mo : EM PV} {ms : EM (List AV)} {G G1 G' H H1 H2 H' : Hp}

/-- a new instance and its dict -/
theorem nx_tail {vs : List V} {ss ss' : List Slot} {x dx : Addr} {o1 o2 : HO} {mo mo' : MO} (le : LeG G1 H1) (hx : H1 x = none) (hd : H1 dx = none) (ne : dx ≠ x) (A1 : Abs D G1 H1 (vs.map some) ss)
    (n : Nx D G1 (upd (upd H1 dx o1) x o2) (some (.ref x) :: vs.map some) (.own true mo :: ss) G' H' (some (.ref x) :: vs.map some) (.own true mo' :: ss')) : Nx D G1 H1 (vs.map some) ss G' H' (vs.map some) ss' := by
  have up : ∀ {a : Addr} {u : HO}, H1 a = some u → (upd (upd H1 dx o1) x o2) a = some u := fun {a u} h => by
    have h1 : a ≠ x := by rintro rfl; rw [hx] at h; cases h
    have h2 : a ≠ dx := by rintro rfl; rw [hd] at h; cases h
    rw [upd_ne h1, upd_ne h2]; exact h
  have dn : ∀ {a : Addr}, (upd (upd H1 dx o1) x o2) a = none → H1 a = none := fun {a} h => by
    by_cases h1 : a = x
    · rw [h1]; exact hx
    · by_cases h2 : a = dx
      · rw [h2]; exact hd
      · rw [upd_ne h1, upd_ne h2] at h; exact h
  refine ⟨⟨n.abs.le, by have := n.abs.len; simpa using this, fun i s h => n.abs.sl (i + 1) s (by simpa using h), fun i j b m1 b' m2 a h1 h2 h3 h4 => ?_⟩, n.g, fun a u h no => n.k a u (up h) fun w => ?_, fun a h => dn (n.d a h), fun a u h => ?_, fun a h => ?_, fun i m1 h => ?_, fun i m1 h => ?_⟩
  · have := n.abs.inj (i + 1) (j + 1) b m1 b' m2 a (by simpa using h1) (by simpa using h2) (by simpa using h3) (by simpa using h4)
    omega
  · obtain ⟨i, b, m1, h1, h2⟩ := w
    cases i with
    | zero =>
      simp at h2
      rw [h2, h] at hx
      cases hx
    | succ i => exact no ⟨i, b, m1, by simpa using h1, by simpa using h2⟩
  · rcases n.f a u h with z | z | ⟨i, m1, h1, h2⟩
    · exact .inl z
    · exact .inr (.inl (dn z))
    · cases i with
      | zero => simp at h1
      | succ i => exact .inr (.inr ⟨i, m1, by simpa using h1, by simpa using h2⟩)
  · obtain ⟨i, b, m1, h1, h2⟩ := h
    rcases n.w a ⟨i + 1, b, m1, by simpa using h1, by simpa using h2⟩ with ⟨j, b', m2, h3, h4⟩ | z
    · cases j with
      | zero =>
        simp at h4
        exact .inr (by rw [← h4]; exact hx)
      | succ j => exact .inl ⟨j, b', m2, by simpa using h3, by simpa using h4⟩
    · exact .inr (dn z)
  · obtain ⟨⟨m', h1⟩, _⟩ := n.br (i + 1) m1 (by simpa using h)
    exact ⟨⟨m', by simpa using h1⟩, rfl⟩
  · obtain ⟨m', h1⟩ := n.nb (i + 1) m1 (by simpa using h)
    exact ⟨m', by simpa using h1⟩
def mkR (c : Nat) (f : FM) (as : List AV) : EM MO := fun ρ => match mkArgs as ρ with
  | none => .stuck
  | some ss => if (owns as ρ).Nodup then (match f (.own true (.obj c []) :: ss) with
    | .ok (.v .non) (.own true mo :: ss') => .ok mo (putBack as ss' ρ)
    | _ => .stuck) else .stuck
def mkM (c : Nat) (f : FM) (ms : EM (List AV)) : EM MO := fun ρ => (ms ρ).bind fun as ρ => mkR c f as ρ
/-- the class of that name and number; its first method keeps to its pure meaning -/
structure MkAt (P : Program) (w : World) (K : PySem.W.Frag) (mg : Str → Option Value) (base : Heap) (D : Wd) (k c : Nat) (x : Str) (fm : FM) : Prop where
  ex : ∃ (C f : Addr) (fd : FuncData) (ps : List Str), mg x = some (.ref C) ∧ D.T c C ∧ Mk K C f ∧ Binds K fd ps [] ∧ FnOk P w K mg base (L2.CX P w) k f fd ps (FSp D fm)
/-- what making asks -/
def tMkA (C : Addr) (sp : Sp) (W : WX) (t : TA) : TE := fun σ H Q => t σ H fun vs H1 => ∀ x dx, H1 x = none → H1 dx = none → dx ≠ x →
  sp (.ref x :: vs) (upd (upd H1 dx (.own x)) x (.ins C dx [])) (fun v H2 => v = .non ∧ Q (.ref x) H2) (WE W σ)
theorem run_mkA {k : Nat} {C f : Addr} {fd : FuncData} {ps : List Str} {sp : Sp} {pins : List (Addr × Obj)} {σ : St} {s : Shared} {Q : VK} {us : List Value} {vs : List V} (M : Mk X.K C f) (F : FnOk X.prog X.w X.K X.mg X.base (L2.CX X.prog X.w) k f fd ps sp) (hr : Room (k + 1) X.A) (hb : Binds X.K fd ps []) (tk : Takes X W) (I : Inv X pins σ H s) (r : Vals vs us)
    (h : ∀ x dx, H x = none → H dx = none → dx ≠ x → sp (.ref x :: vs) (upd (upd H dx (.own x)) x (.ins C dx [])) (fun v H2 => v = .non ∧ Q (.ref x) H2) (WE W σ)) : wpAny (model X.prog X.w) X.A (call (.ref C) us) (EP X pins σ Q) X.xe s := by
  have q0 := h (s.heap.objs.size + 1) s.heap.objs.size (I.hok.fresh (Nat.le_succ _)) (I.hok.fresh (Nat.le_refl _)) (Nat.ne_of_lt (Nat.lt_succ_self _))
  have J := Inv.made (C := C) I
  have rr : Vals (V.ref (s.heap.objs.size + 1) :: vs) (Value.ref (s.heap.objs.size + 1) :: us) := .cons rfl r
  have ln : (Value.ref (s.heap.objs.size + 1) :: us ++ []).length = ps.length := by
    rw [List.append_nil, ← rr.length]
    exact F.len _ _ _ _ q0
  have bt := hb _ (Value.ref (s.heap.objs.size + 1) :: us) J.kIn ln
  rw [List.append_nil] at bt
  refine wpAny_call (make_map (f := f) I.kIn M.makes M.init (beq_iff_eq.mp M.fn) (codeAny_mono (F.run _ X.stack _ _ ⟨Value.ref (s.heap.objs.size + 1) :: us, []⟩ _ _ _ (WE W σ) (hr.make C us []) (J.env0.make C us []) bt rr q0) fun res s' hq => ?_))
  cases res with
  | error er => exact passAt tk σ pins _ _ er s' J hq
  | ok fl =>
    cases fl with
    | ret u =>
      obtain ⟨v, H', I3, rv, ev, q3⟩ := J.after hq
      cases ev
      exact ⟨rv, V.ref (s.heap.objs.size + 1), H', I3, rfl, q3⟩
    | _ => exact hq.elim
theorem mk_le {c : Nat} {fm : FM} {C : Addr} (t : D.T c C) (σ : St) (H : Hp) (Q : VK) (h : tN D W (mkM c fm ms) σ H Q) : tMkA C (FSp D fm) W (tA D W ms) σ H Q := by
  obtain ⟨G, ρ, A, k0⟩ := h
  refine ⟨G, ρ, A, ?_⟩
  unfold mkM at k0
  cases q : ms ρ with
  | stuck => rw [q] at k0; exact k0
  | exc ex ρ' => rw [q] at k0; exact k0
  | ok as ρ1 =>
    rw [q] at k0
    simp only [Out.bind_ok] at k0
    intro G1 H1 n1 vs rs x dx hx hd ne
    unfold mkR at k0
    split at k0
    · exact False.elim k0
    · rename_i ss es
      split at k0
      · rename_i nd
        have A1 := abs_args n1.abs rs es nd
        obtain ⟨gx, ox⟩ := free_of A1 hx
        obtain ⟨gd, od⟩ := free_of A1 hd
        have m1 : Nx D G1 H1 (vs.map some) ss G1 (upd H1 dx (.own x)) (vs.map some) ss := nx_new (Nx.refl A1) hd gd od
        have m2 : Nx D G1 H1 (vs.map some) ss G1 (upd (upd H1 dx (.own x)) x (.ins C dx [])) (vs.map some) ss := nx_new m1 hx gx ox
        have A2 : Abs D G1 (upd (upd H1 dx (.own x)) x (.ins C dx [])) ((V.ref x :: vs).map some) (.own true (.obj c []) :: ss) := by
          refine ⟨m2.abs.le, by have := m2.abs.len; simpa using this, fun i s h => ?_, fun i j b mo1 b' mo2 a h1 h2 h3 h4 => ?_⟩
          · cases i with
            | zero =>
              simp at h; subst h
              exact ⟨x, rfl, gx, C, dx, [], upd_same, t, rfl⟩
            | succ i => exact m2.abs.sl i s (by simpa using h)
          · have nx : ∀ {i : Nat} {b : Bool} {mo1 : MO}, ss[i]? = some (.own b mo1) → (vs.map some)[i]? = some (some (V.ref x)) → False := fun {i b mo1} u1 u2 => ox ⟨i, b, mo1, u1, u2⟩
            cases i with
            | zero =>
              cases j with
              | zero => rfl
              | succ j =>
                simp at h3
                subst h3
                exact (nx (i := j) (by simpa using h2) (by simpa using h4)).elim
            | succ i =>
              cases j with
              | zero =>
                simp at h4
                subst h4
                exact (nx (i := i) (by simpa using h1) (by simpa using h3)).elim
              | succ j => rw [m2.abs.inj i j b mo1 b' mo2 a (by simpa using h1) (by simpa using h2) (by simpa using h3) (by simpa using h4)]
        refine ⟨G1, .own true (.obj c []) :: ss, (mkArgs_get es).2.1, A2, ?_⟩
        split at k0
        · rename_i mo ss' hf
          rw [hf]
          intro G' H' v n rr
          have nt := nx_tail n1.abs.le hx hd ne A1 n
          have nc := nx_call n1.abs rs es nd nt
          obtain ⟨ad, e1, ga, rm⟩ := n.abs.own (i := 0) (b := true) (m := mo) rfl
          simp at e1
          subst e1
          refine ⟨rr, k0 G' H' (n1.trans nc) x ga (n1.d x hx) rm fun w => ?_⟩
          obtain ⟨⟨u, hu⟩, _⟩ := n1.abs.ow_some (putBack_ow as ss' ρ1 w)
          rw [hx] at hu; cases hu
        · exact False.elim k0
      · exact False.elim k0
theorem rn_mk {k c : Nat} {x : Str} {fm : FM} (F : MkAt X.prog X.w X.K X.mg X.base D k c x fm) (hr : Room (k + 1) X.A) (tk : Takes X W) (ha : RA D W X (e :: es) ms) (hg : Gl X x := by rfl) (hdb : (x == ("__debug__" : Str)) = false := by decide)
    (he : starEach (e :: es) X.env = (false, eval e X.env) :: starEach es X.env := by rfl) (hpl : (backTo pos (starEach es X.env)).any (·.1) = false := by rfl) : RN D W X (.Call (.Name x p) (e :: es) [] pos) (mkM c fm ms) := by
  obtain ⟨C, f, fd, ps, h1, h2, h3, h4, h5⟩ := F.ex
  refine PE.imp (t := tMkA C (FSp D fm) W (tA D W ms)) ⟨fun pins s σ H Q I h => ?_⟩ (mk_le h2)
  refine wpAny_Call_Name_kw (ld_glob I hg h1 (PySem.W.callWith_K (h₀ := X.base) I.ok.mod.kin h3.kp (thn (ha.run pos pins s σ H _ I h) fun us s1 hy => ?_) he hpl) hdb)
  obtain ⟨vs, H1, I1, r, q⟩ := hy
  exact ⟨I1.kIn, run_mkA h3 h5 hr h4 tk I1 r q⟩
theorem rn_mk0 {k c : Nat} {x : Str} {fm : FM} (F : MkAt X.prog X.w X.K X.mg X.base D k c x fm) (hr : Room (k + 1) X.A) (tk : Takes X W) (hg : Gl X x := by rfl) (hdb : (x == ("__debug__" : Str)) = false := by decide) : RN D W X (.Call (.Name x p) [] [] pos) (mkM c fm argNil) := by
  obtain ⟨C, f, fd, ps, h1, h2, h3, h4, h5⟩ := F.ex
  refine PE.imp (t := tMkA C (FSp D fm) W tNil) ⟨fun pins s σ H Q I h => ?_⟩ fun σ H Q h => ?_
  · exact wpAny_Call_Name_kw (ld_glob I hg h1 (PySem.W.callWith_K0 I.kIn h3.kp (run_mkA (us := []) h3 h5 hr h4 tk I .nil h)) hdb)
  · obtain ⟨G, ρ, A, k⟩ := mk_le h2 σ H Q h
    exact k G H (Nx.refl A) [] rfl

/-! ### isinstance of an own class -/
/-- which classes count: the flags, by number -/
def isCls (tab : List Nat) : PV → Bool
  | .obj c _ => decide (c ∈ tab)
  | _ => false
structure IsCl (D : Wd) (C : Addr) (tab : List Nat) : Prop where
  b : ∀ n : String, n ∈ ["NoneType", "bool", "int", "str", "list", "tuple", "dict"] → PySem.W.kitOne D.K (.type n) (.ref C) = some false
  o : ∀ c C', D.T c C' → PySem.W.kitOne D.K (.ref C') (.ref C) = some (decide (c ∈ tab))
theorem ty_cls (hT : IsAll D) {C : Addr} {tab : List Nat} (hC : IsCl D C tab) (le : LeG G H) {x : PV} {v : V} (r : RepH D G H x v) : ∃ t : Value, TyX D.K H v t ∧ PySem.W.kitOne D.K t (.ref C) = some (isCls tab x) := by
  cases x with
  | non => cases r; exact ⟨_, .base .non, hC.b _ (by decide)⟩
  | bl k => cases r; exact ⟨_, .base (.bl k), hC.b _ (by decide)⟩
  | int k => cases r; exact ⟨_, .base (.int k), hC.b _ (by decide)⟩
  | str k => cases r; exact ⟨_, .base (.str k), hC.b _ (by decide)⟩
  | lst xs =>
    obtain ⟨ad, vs, rfl, h, _⟩ := r
    exact ⟨_, tyx_lst (G := G) h, hC.b _ (by decide)⟩
  | tup xs =>
    obtain ⟨ad, vs, rfl, h, _⟩ := r
    exact ⟨_, tyx_tup (G := G) (sqT_mono le h), hC.b _ (by decide)⟩
  | dct xs =>
    obtain ⟨ad, vs, rfl, h, _⟩ := r
    refine ⟨.type "dict", ?_, hC.b _ (by decide)⟩
    exact .base (.dK h)
  | obj c fs =>
    obtain ⟨ad, C', dx, ws, rfl, h, t, _⟩ := r
    have F := hT c C' t
    exact ⟨.ref C', .base (.ins h F.cl F.ha F.hn F.htk F.hm), hC.o c C' t⟩
def isCM (m : EM PV) (tab : List Nat) : EM PV := fun ρ => (m ρ).bind fun x ρ => .ok (.bl (isCls tab x)) ρ
structure IsAt (D : Wd) (mg : Str → Option Value) (x : Str) (tab : List Nat) : Prop where
  ex : ∃ C, mg x = some (.ref C) ∧ IsCl D C tab
theorem re_isc (hT : IsAll D) {x : Str} {tab : List Nat} (hC : IsAt D X.mg x tab) (hK : D.K = X.K) (he : RP D W X e m) (hg : Gl X "isinstance") (hm : X.mg "isinstance" = none) (hg2 : Gl X x := by rfl)
    (hd2 : (x == ("__debug__" : Str)) = false := by decide)
    (hs : starEach [e, .Name x p3] X.env = (false, eval e X.env) :: starEach [.Name x p3] X.env := by rfl) (hs2 : starEach [.Name x p3] X.env = (false, eval (.Name x p3) X.env) :: starEach [] X.env := by rfl) (hpl : (backTo p2 (starEach [.Name x p3] X.env)).any (·.1) = false := by rfl) :
    RE D W X (.Call (.Name "isinstance" p) [e, .Name x p3] [] p2) (isCM m tab) := by
  obtain ⟨C, h1, h2⟩ := hC.ex
  exact (pe_callB call_isi hg hm PyProof.Rows.boot_isinstance (pa_cons he (pa_cons (pe_glob hg2 h1 (show RelV (.ref C) (.ref C) from rfl) hd2) pa_nil hs2) hs) (by decide) (by decide) hs hpl).imp fun σ H Q ⟨G, ρ, A, k⟩ =>
    ⟨G, ρ, A, (Kg.bind k).mono fun x ρ1 G1 H1 n1 k1 v rv => by
      obtain ⟨t, ty, f⟩ := ty_cls hT h2 n1.abs.le rv
      exact ⟨v, .ref C, t, .ref C, _, rfl, .own _, hK ▸ ty, hK ▸ f, k1 G1 H1 (Nx.refl n1.abs) _ rfl⟩⟩

/-! ### what stays open: nothing is said of it -/
def stkS : SM := fun _ => .stuck
theorem s_stk {st : Stmt} : RS D W X st stkS := ⟨fun pins s σ H E I ⟨G, ρ, A, k⟩ => False.elim k⟩
theorem re_stk : RE D W X e stk := ⟨fun pins s σ H Q I ⟨G, ρ, A, k⟩ => False.elim k⟩
@[simp] theorem stkS_ (ρ : Ev) : stkS ρ = .stuck := (rfl)
end
/-! evaluation -/
section
def kFl (cs : List Nat) (f : Str) : PV → Ev → Out PV := fun x ρ => lift (fldQ cs f x) ρ
@[simp] theorem kFl_ (cs : List Nat) (f : Str) (x : PV) (ρ : Ev) : kFl cs f x ρ = lift (fldQ cs f x) ρ := (rfl)
@[simp] theorem ev_fld (cs : List Nat) (f : Str) (m : EM PV) (ρ : Ev) : fldM cs f m ρ = (m ρ).bind (kFl cs f) := (rfl)
@[simp] theorem fldQ_obj (cs : List Nat) (f : Str) (c : Nat) (fs : List (Str × PV)) : fldQ cs f (.obj c fs) = if c ∈ cs then fs.lookup f else none := (rfl)
def sfk (i : Nat) (cs : List Nat) (f : Str) (x : PV) : Option Slot → Ev → SO
  | some (.own b (.obj c fs)), ρ => if c ∈ cs ∧ fs.length < 1000 then .nxt (ρ.set i (.own b (.obj c (putFP f x fs)))) else .stuck
  | _, _ => .stuck
@[simp] theorem sfk_ (i : Nat) (cs : List Nat) (f : Str) (x : PV) (b : Bool) (c : Nat) (fs : List (Str × PV)) (ρ : Ev) : sfk i cs f x (some (.own b (.obj c fs))) ρ = if c ∈ cs ∧ fs.length < 1000 then .nxt (ρ.set i (.own b (.obj c (putFP f x fs)))) else .stuck := (rfl)
def kSf2 (i : Nat) (cs : List Nat) (f : Str) (x : PV) : PV → SM := fun _ ρ => sfk i cs f x ρ[i]? ρ
def kSf1 (i : Nat) (cs : List Nat) (f : Str) : PV → SM := fun x ρ => (peek i ρ).to (kSf2 i cs f x)
@[simp] theorem kSf2_ (i : Nat) (cs : List Nat) (f : Str) (x y : PV) (ρ : Ev) : kSf2 i cs f x y ρ = sfk i cs f x ρ[i]? ρ := (rfl)
@[simp] theorem kSf1_ (i : Nat) (cs : List Nat) (f : Str) (x : PV) (ρ : Ev) : kSf1 i cs f x ρ = (peek i ρ).to (kSf2 i cs f x) := (rfl)
@[simp] theorem ev_setFld (i : Nat) (cs : List Nat) (f : Str) (m : EM PV) (ρ : Ev) : setFld i cs f m ρ = (m ρ).to (kSf1 i cs f) := by
  unfold setFld kSf1 kSf2
  congr 1
  funext x ρ
  congr 1
  funext _ ρ
  unfold sfk
  cases ρ[i]? with
  | none => rfl
  | some s =>
    cases s with
    | own b mo => cases mo <;> rfl
    | _ => rfl
def kSv : PV → Ev → Out AV := fun x ρ => .ok (.v x) ρ
@[simp] theorem kSv_ (x : PV) (ρ : Ev) : kSv x ρ = .ok (.v x) ρ := (rfl)
@[simp] theorem ev_selfV (m : EM PV) (ρ : Ev) : selfV m ρ = (m ρ).bind kSv := (rfl)
def kSn (i : Nat) : PV → Ev → Out AV := fun _ ρ => .ok (.s i) ρ
@[simp] theorem kSn_ (i : Nat) (x : PV) (ρ : Ev) : kSn i x ρ = .ok (.s i) ρ := (rfl)
@[simp] theorem ev_selfN (i : Nat) (ρ : Ev) : selfN i ρ = (peek i ρ).bind (kSn i) := (rfl)
@[simp] theorem cls_v (c : Nat) (fs : List (Str × PV)) (ρ : Ev) : clsOf (.v (.obj c fs)) ρ = some (c, fs) := (rfl)
def clsS : Option Slot → Option (Nat × List (Str × PV))
  | some s => s.peek.bind clsQ
  | none => none
@[simp] theorem clsS_val (c : Nat) (fs : List (Str × PV)) : clsS (some (.val (.obj c fs))) = some (c, fs) := (rfl)
@[simp] theorem clsS_own (b : Bool) (c : Nat) (fs : List (Str × PV)) : clsS (some (.own b (.obj c fs))) = some (c, fs) := (rfl)
@[simp] theorem cls_s (i : Nat) (ρ : Ev) : clsOf (.s i) ρ = clsS ρ[i]? := by
  show (match ρ[i]? with
    | some s => s.peek.bind clsQ
    | none => none) = clsS ρ[i]?
  cases ρ[i]? <;> rfl
def kMt2 (f : FM) (a : AV) : List AV → Ev → Out Ret := fun as ρ => apS f (a :: as) ρ (mkArgs (a :: as) ρ)
@[simp] theorem kMt2_ (f : FM) (a : AV) (as : List AV) (ρ : Ev) : kMt2 f a as ρ = apS f (a :: as) ρ (mkArgs (a :: as) ρ) := (rfl)
def mt3 (ms : EM (List AV)) (a : AV) : Option FM → Option PV → Ev → Out Ret
  | some f, none, ρ => (ms ρ).bind (kMt2 f a)
  | _, _, _ => .stuck
@[simp] theorem mt3_ (ms : EM (List AV)) (a : AV) (f : FM) (ρ : Ev) : mt3 ms a (some f) none ρ = (ms ρ).bind (kMt2 f a) := (rfl)
def mt2 (tbl : List (Nat × FM)) (nm : Str) (ms : EM (List AV)) (a : AV) : Option (Nat × List (Str × PV)) → Ev → Out Ret
  | some (c, fs), ρ => mt3 ms a (tbl.lookup c) (fs.lookup nm) ρ
  | none, _ => .stuck
@[simp] theorem mt2_ (tbl : List (Nat × FM)) (nm : Str) (ms : EM (List AV)) (a : AV) (c : Nat) (fs : List (Str × PV)) (ρ : Ev) : mt2 tbl nm ms a (some (c, fs)) ρ = mt3 ms a (tbl.lookup c) (fs.lookup nm) ρ := (rfl)
def kMt1 (tbl : List (Nat × FM)) (nm : Str) (ms : EM (List AV)) : AV → Ev → Out Ret := fun a ρ => mt2 tbl nm ms a (clsOf a ρ) ρ
@[simp] theorem kMt1_ (tbl : List (Nat × FM)) (nm : Str) (ms : EM (List AV)) (a : AV) (ρ : Ev) : kMt1 tbl nm ms a ρ = mt2 tbl nm ms a (clsOf a ρ) ρ := (rfl)
theorem ev_mthF (tbl : List (Nat × FM)) (nm : Str) (sf : EM AV) (ms : EM (List AV)) (ρ : Ev) : mthF tbl nm sf ms ρ = (sf ρ).bind (kMt1 tbl nm ms) := by
  unfold mthF kMt1
  congr 1
  funext a ρ
  unfold mt2
  cases clsOf a ρ with
  | none => rfl
  | some p =>
    obtain ⟨c, fs⟩ := p
    show (match tbl.lookup c, fs.lookup nm with
      | some f, none => (ms ρ).bind fun as ρ => applyF f (a :: as) ρ
      | _, _ => .stuck) = mt3 ms a (tbl.lookup c) (fs.lookup nm) ρ
    cases tbl.lookup c with
    | none => rfl
    | some f =>
      cases fs.lookup nm with
      | some y => rfl
      | none =>
        show (ms ρ).bind _ = (ms ρ).bind _
        congr 1
        funext as ρ
        exact ev_applyF f (a :: as) ρ
@[simp] theorem ev_mthE (tbl : List (Nat × FM)) (nm : Str) (sf : EM AV) (ms : EM (List AV)) (ρ : Ev) : mthE tbl nm sf ms ρ = ((sf ρ).bind (kMt1 tbl nm ms)).bind kPv := by
  unfold mthE
  rw [ev_mthF]
  rfl
@[simp] theorem ev_mthO (tbl : List (Nat × FM)) (nm : Str) (sf : EM AV) (ms : EM (List AV)) (ρ : Ev) : mthO tbl nm sf ms ρ = ((sf ρ).bind (kMt1 tbl nm ms)).bind rk := by
  unfold mthO
  rw [ev_mthF]
  cases (sf ρ).bind (kMt1 tbl nm ms) with
  | ok r ρ => cases r <;> rfl
  | _ => rfl
def mko (as : List AV) (ρ : Ev) : FOut → Out MO
  | .ok (.v .non) (.own true mo :: ss) => .ok mo (putBack as ss ρ)
  | _ => .stuck
@[simp] theorem mko_ (as : List AV) (ρ : Ev) (mo : MO) (ss : List Slot) : mko as ρ (.ok (.v .non) (.own true mo :: ss)) = .ok mo (putBack as ss ρ) := (rfl)
def mks (c : Nat) (f : FM) (as : List AV) (ρ : Ev) : Option (List Slot) → Out MO
  | some ss => if (owns as ρ).Nodup then mko as ρ (f (.own true (.obj c []) :: ss)) else .stuck
  | none => .stuck
@[simp] theorem mks_ (c : Nat) (f : FM) (as : List AV) (ρ : Ev) (ss : List Slot) : mks c f as ρ (some ss) = if (owns as ρ).Nodup then mko as ρ (f (.own true (.obj c []) :: ss)) else .stuck := (rfl)
def kMk (c : Nat) (f : FM) : List AV → Ev → Out MO := fun as ρ => mks c f as ρ (mkArgs as ρ)
@[simp] theorem kMk_ (c : Nat) (f : FM) (as : List AV) (ρ : Ev) : kMk c f as ρ = mks c f as ρ (mkArgs as ρ) := (rfl)
@[simp] theorem ev_mk (c : Nat) (f : FM) (ms : EM (List AV)) (ρ : Ev) : mkM c f ms ρ = (ms ρ).bind (kMk c f) := by
  unfold mkM kMk
  congr 1
  funext as ρ
  unfold mkR mks
  cases mkArgs as ρ with
  | none => rfl
  | some ss =>
    show (if _ then _ else _) = (if _ then _ else _)
    split
    · unfold mko
      rfl
    · rfl
def kIc (tab : List Nat) : PV → Ev → Out PV := fun x ρ => .ok (.bl (isCls tab x)) ρ
@[simp] theorem kIc_ (tab : List Nat) (x : PV) (ρ : Ev) : kIc tab x ρ = .ok (.bl (isCls tab x)) ρ := (rfl)
@[simp] theorem ev_isCM (m : EM PV) (tab : List Nat) (ρ : Ev) : isCM m tab ρ = (m ρ).bind (kIc tab) := (rfl)
end
end TR

set_option Elab.async false
set_option linter.all false
set_option maxRecDepth 100000
/-! TRY: more built-ins, x += e, defs of classes, defs that call themselves. -/
namespace TR
open PySem PySem.Spec L2
set_option autoImplicit false
section
variable {D : Wd} {W : WX} {X : Cx} {e o : Expr} {es : List Expr} {pos p p2 : Pos} {m : EM PV} {ms : EM (List AV)}
theorem rn_stk : RN D W X e (stk : EM MO) := ⟨fun pins s σ H Q I ⟨G, ρ, A, k⟩ => False.elim k⟩
/-! ### str, tuple -/
def bStr : List PV → Option PV
  | [.int i] => if i.natAbs.log2 < 1920 then some (.str (Str.ofString (toString i))) else none
  | [.str a] => some (.str a)
  | _ => none
def rStr : List V → Hp → VK → Prop := fun xs H Q => (∃ i, xs = [.int i] ∧ i.natAbs.log2 < 1920 ∧ Q (.str (toString i)) H) ∨ ∃ a, xs = [.str a] ∧ Q (.str a) H
theorem call_str : CallR X (.type "str") rStr := fun pins s σ H xs us Q I r h => by
  rcases h with h | h
  · exact call_str_int pins s σ H xs us Q I r h
  · exact SkE.call_str_str pins s σ H xs us Q I r h
theorem sn_str : SnC D rStr bStr := by
  intro G H xs z vs Q le r e q
  unfold bStr at e
  split at e
  · split at e
    · rename_i hz
      cases e
      obtain ⟨v, rfl, r1⟩ := one_h r
      cases r1
      exact .inl ⟨_, rfl, hz, q G H _ (Grow.refl le) rfl⟩
    · cases e
  · cases e
    obtain ⟨v, rfl, r1⟩ := one_h r
    cases r1
    exact .inr ⟨_, rfl, q G H _ (Grow.refl le) rfl⟩
  · cases e
def bTup : List PV → Option PV
  | [.lst xs] => some (.tup xs)
  | [.tup xs] => some (.tup xs)
  | _ => none
theorem sn_tup (hK : D.K = X.K) : SnC D (fun xs H Q => ∃ p ys, xs = [.ref p] ∧ ((SqL X.K H p ys ∧ ∀ l, H l = none → Q (.ref l) (upd H l (.tup ys))) ∨ (SqT X.K H p ys ∧ Q (.ref p) H))) bTup := by
  intro G H xs z vs Q le r e q
  unfold bTup at e
  split at e
  · cases e
    obtain ⟨v, rfl, ad, ws, rfl, s, rs⟩ := one_h r
    exact ⟨ad, ws, rfl, .inl ⟨hK ▸ s, fun l hl => q _ _ _ (Grow.new le hl) ⟨l, ws, rfl, .inl (.inl upd_same), rs.mono (Grow.new le hl).leg⟩⟩⟩
  · cases e
    obtain ⟨v, rfl, ad, ws, rfl, s, rs⟩ := one_h r
    exact ⟨ad, ws, rfl, .inr ⟨hK ▸ sqT_mono le s, q G H _ (Grow.refl le) ⟨ad, ws, rfl, s, rs⟩⟩⟩
  · cases e
section
variable (he : starEach (e :: es) X.env = (false, eval e X.env) :: starEach es X.env := by rfl) (hpl : (backTo p2 (starEach es X.env)).any (·.1) = false := by rfl)
include he hpl
theorem re_str1 (hg : Gl X "str") (hm : X.mg "str" = none) (ha : RA D W X (e :: es) ms) : RE D W X (.Call (.Name "str" p) (e :: es) [] p2) (callB bStr ms) :=
  re_callTy call_str sn_str hg hm PyProof.Rows.boot_str ha (by decide) (by decide) he hpl
theorem re_tup1 (hK : D.K = X.K) (hg : Gl X "tuple") (hm : X.mg "tuple" = none) (ha : RA D W X (e :: es) ms) : RE D W X (.Call (.Name "tuple" p) (e :: es) [] p2) (callB bTup ms) :=
  re_callTy call_tuple_of (sn_tup hK) hg hm PyProof.Rows.boot_tuple ha (by decide) (by decide) he hpl
end
/-! ### text.index -/
def sIndex (a : Str) : List PV → Option PV
  | [.str b] => (match Builtin.Str.occurrences a b 0 a.length 1 with
    | i :: _ => some (.int (i : Nat))
    | [] => none)
  | _ => none
theorem sn_index : SnS D (fun x xs H Q => ∃ a b i rest, x = .str a ∧ xs = [.str b] ∧ Builtin.Str.occurrences a b 0 a.length 1 = i :: rest ∧ Q (.int (i : Nat)) H) sIndex := by
  intro G H a xs z vs Q le r e q
  unfold sIndex at e
  split at e
  · split at e
    · rename_i i rest ho
      cases e
      obtain ⟨v, rfl, r1⟩ := one_h r
      cases r1
      exact ⟨a, _, i, rest, rfl, rfl, ho, q G H _ (Grow.refl le) rfl⟩
    · cases e
  · cases e
/-! ### x += e, of ints -/
def setAug (i : Nat) (g : Int → Int → Int) (m : EM PV) : SM := fun ρ => match ρ[i]? with
  | some (.val (.int a)) => (m ρ).to fun y ρ => (match y with
    | .int b => putV i (.int (g a b)) ρ
    | _ => .stuck)
  | _ => .stuck
theorem s_aug {i : Nat} {x : Str} {op : Operator} {g : Int → Int → Int} {pos' : Pos} (hg : PIp X op (ipI g)) (hN : X.N.Nodup) (hi : X.N[i]? = some x) (hx : Loc X.env.scope x) (he : RE D W X e m)
    (hf : X.fn x = true ∨ X.env.scope.names.lookup x = some .local := by first | exact .inl rfl | exact .inr rfl | assumption) : RS D W X (.AugAssign (.Name x pos') op e pos) (setAug i g m) :=
  (ps_aug hN hi hx he hg hf).imp fun E σ H ⟨G, ρ, A, k⟩ => by
    unfold setAug at k
    split at k
    · rename_i a ea
      obtain ⟨v, e1, r⟩ := A.val ea
      cases r
      refine ⟨_, e1, G, ρ, A, (Ks.to k).mono fun y ρ1 G1 H1 n1 k1 w rw' => ?_⟩
      cases y with
      | int b =>
        cases rw'
        simp only at k1
        refine ⟨a, b, rfl, rfl, ?_⟩
        unfold putV at k1
        split at k1
        · rename_i h
          exact k1 G1 H1 _ (abs_putV n1.abs (show Rep D G1 (.int (g a b)) (.int (g a b)) from rfl) (mayPut_no h))
        · exact False.elim k1
      | _ => exact False.elim k1
    · exact False.elim k
end

/-! ### defs -/
section
variable {P : Program} {w : World} {K : PySem.W.Frag} {mg : Str → Option Value} {base : Heap} {D : Wd}
def stF : FM := fun _ => .stuck
theorem fnok_stk {k : Nat} {f : Addr} {fd : FuncData} {ps : List Str} : FnOk P w K mg base (L2.CX P w) k f fd ps (FSp D stF) :=
  ⟨fun vs H Q E ⟨G, as, _, _, h⟩ => False.elim h, fun A outer s H args us vs Q E _ _ _ _ ⟨G, as, _, _, h⟩ => False.elim h⟩
theorem at_stk {k : Nat} {x : Str} {st : Stmt} {ps : List Str} (d : DefAt K mg x st ps) : FnAt P w K mg base D k x ps stF := by
  obtain ⟨f, fd, h1, h2, h3⟩ := d.ex
  obtain ⟨oc, od, kV, doc, pm, an, cdv, ct, osl, e, l, _⟩ := h2.ex
  exact ⟨f, fd, h1, h2.kp, h3, fnok_stk, oc, od, osl, l⟩
theorem FnAt.up {j k : Nat} {x : Str} {ps : List Str} {fm : FM} (h : FnAt P w K mg base D j x ps fm) (l : j ≤ k) : FnAt P w K mg base D k x ps fm := by
  obtain ⟨f, fd, h1, h2, h3, h4, h5⟩ := h.ex
  exact ⟨f, fd, h1, h2, h3, h4.mono l, h5⟩
/-- the method's text stands in the class of that number -/
structure DefMt (K : PySem.W.Frag) (D : Wd) (c : Nat) (nm qual : Str) (st : Stmt) (ps : List Str) : Prop where
  h : ∀ C, D.T c C → ∃ (f : Addr) (fd : FuncData), Cls K C ∧ Meth K C nm f ∧ Fun K nm qual st f fd ∧ Binds K fd ps []
structure DefMk (K : PySem.W.Frag) (mg : Str → Option Value) (D : Wd) (c : Nat) (x qual : Str) (st : Stmt) (ps : List Str) : Prop where
  ex : ∃ (C f : Addr) (fd : FuncData), mg x = some (.ref C) ∧ D.T c C ∧ Mk K C f ∧ Fun K "__init__" qual st f fd ∧ Binds K fd ps []
theorem mt_at {c : Nat} {nm qual : Str} {st : Stmt} {N ps : List Str} {k n : Nat} {body : SM} (d : DefMt K D c nm qual st ps) (S : FnScope N ps (defScope st)) (hn : ps.length = n) (hN : n ≤ N.length)
    (hb : ∀ {f : Addr} (cdv : Value) (A : Around) (outer : List Env) (s : Shared) (H : Hp) (E : XK), Room k (A.deeper (PyProof.Rows.envOfC qual (defScope st) s.heap.objs.size f cdv)) → Takes (cxB P w K mg base N qual (defScope st) f cdv A outer s H E) (fun c d _ H => E c d H) → RSs D (fun c d _ H => E c d H) (cxB P w K mg base N qual (defScope st) f cdv A outer s H E) (defBody st) body) :
    MtAt P w K mg base D (k + 1) nm c (fnB n N.length body) := ⟨fun C t => by
  obtain ⟨f, fd, h1, h2, h3, h4⟩ := d.h C t
  exact ⟨f, fd, ps, h1, h2, h4, fn_ok h3 S hn hN fun cdv A outer s H E hr => hb cdv A outer s H E hr (takes_of rfl rfl rfl rfl)⟩⟩
theorem mk_at {c : Nat} {x qual : Str} {st : Stmt} {N ps : List Str} {k n : Nat} {body : SM} (d : DefMk K mg D c x qual st ps) (S : FnScope N ps (defScope st)) (hn : ps.length = n) (hN : n ≤ N.length)
    (hb : ∀ {f : Addr} (cdv : Value) (A : Around) (outer : List Env) (s : Shared) (H : Hp) (E : XK), Room k (A.deeper (PyProof.Rows.envOfC qual (defScope st) s.heap.objs.size f cdv)) → Takes (cxB P w K mg base N qual (defScope st) f cdv A outer s H E) (fun c d _ H => E c d H) → RSs D (fun c d _ H => E c d H) (cxB P w K mg base N qual (defScope st) f cdv A outer s H E) (defBody st) body) :
    MkAt P w K mg base D (k + 1) c x (fnB n N.length body) := by
  obtain ⟨C, f, fd, h1, h2, h3, h4, h5⟩ := d.ex
  exact ⟨C, f, fd, ps, h1, h2, h3, h5, fn_ok h4 S hn hN fun cdv A outer s H E hr => hb cdv A outer s H E hr (takes_of rfl rfl rfl rfl)⟩
theorem mt_stk {k c : Nat} {nm qual : Str} {st : Stmt} {ps : List Str} (d : DefMt K D c nm qual st ps) : MtAt P w K mg base D k nm c stF := ⟨fun C t => by
  obtain ⟨f, fd, h1, h2, h3, h4⟩ := d.h C t
  exact ⟨f, fd, ps, h1, h2, h4, fnok_stk⟩⟩
/-- a class's number, by its name -/
theorem defMt_mk {h : Heap} {c : Nat} {cn nm qual : Str} {st : Stmt} {ps : List Str} {C f : Addr} {oc : Value} {od an : Option Addr} {osl : Array (Option Value)} {kV doc pm cdv ct : Value} (X : K.In h) (G : h.Ns mainGlobals mg) (hD : ∀ C, D.T c C → mg cn = some (.ref C))
    (a : PySem.W.nsIn K mainGlobals cn = some (some (.ref C))) (cl : Cls K C) (hm : PySem.W.findIn K (.ref C) nm = some (some (.ref f))) (l : K.lookup f = some ⟨oc, od, .func (PySem.W.fnOf nm qual (defArgs st) (defBody st) (defScope st) .none kV doc pm an cdv ct), osl⟩)
    (cd : PySem.W.codeIn K cdv qual = true) (hf : PySem.W.isFn K (.ref f) = true) (k : PySem.W.keepIn K (.ref f) = true)
    (hb : ∀ (kV doc pm : Value) (an : Option Addr) (cdv ct : Value) (us : List Value), us.length = ps.length → bindArgs (PySem.W.fnOf nm qual (defArgs st) (defBody st) (defScope st) .none kV doc pm an cdv ct) ⟨us, []⟩ = pure (ps.zip us)) : DefMt K D c nm qual st ps := ⟨fun C' t => by
  have e := (PySem.W.mg_of X G a).symm.trans (hD C' t)
  cases e
  have F : Fun K nm qual st f _ := fun_mk l cd k
  exact ⟨f, _, cl, ⟨hm, hf, k⟩, F, F.binds hb⟩⟩
theorem defMk_mk {h : Heap} {c : Nat} {cn qual : Str} {st : Stmt} {ps : List Str} {C f : Addr} {oc : Value} {od an : Option Addr} {osl : Array (Option Value)} {kV doc pm cdv ct : Value} (X : K.In h) (G : h.Ns mainGlobals mg) (hD : ∀ C, mg cn = some (.ref C) → D.T c C)
    (a : PySem.W.nsIn K mainGlobals cn = some (some (.ref C))) (mk : PySem.W.makesIn K C = true) (hm : PySem.W.findIn K (.ref C) "__init__" = some (some (.ref f))) (kC : PySem.W.keepIn K (.ref C) = true) (l : K.lookup f = some ⟨oc, od, .func (PySem.W.fnOf "__init__" qual (defArgs st) (defBody st) (defScope st) .none kV doc pm an cdv ct), osl⟩)
    (cd : PySem.W.codeIn K cdv qual = true) (hf : PySem.W.isFn K (.ref f) = true) (k : PySem.W.keepIn K (.ref f) = true)
    (hb : ∀ (kV doc pm : Value) (an : Option Addr) (cdv ct : Value) (us : List Value), us.length = ps.length → bindArgs (PySem.W.fnOf "__init__" qual (defArgs st) (defBody st) (defScope st) .none kV doc pm an cdv ct) ⟨us, []⟩ = pure (ps.zip us)) : DefMk K mg D c cn qual st ps := by
  have F : Fun K "__init__" qual st f _ := fun_mk l cd k
  exact ⟨C, f, _, PySem.W.mg_of X G a, hD C (PySem.W.mg_of X G a), ⟨mk, hm, hf, kC⟩, F, F.binds hb⟩
theorem cf_mk {h : Heap} {c : Nat} {cn f : Str} {C : Addr} (X : K.In h) (G : h.Ns mainGlobals mg) (hK : D.K = K) (hD : ∀ C, D.T c C → mg cn = some (.ref C)) (a : PySem.W.nsIn K mainGlobals cn = some (some (.ref C))) (cl : Cls K C) (n : PySem.W.findIn K (.ref C) f = some none) : CF D f c := ⟨fun C' t => by
  have e := (PySem.W.mg_of X G a).symm.trans (hD C' t)
  cases e
  exact hK ▸ ⟨cl, n⟩⟩
/-- a statement of a class's body -/
def inCls (st : Stmt) (j : Nat) : Stmt := match st with
  | .ClassDef _ _ _ body .. => body.getD j (.Pass ⟨0, 0, 0, 0⟩)
  | _ => .Pass ⟨0, 0, 0, 0⟩
end
/-! evaluation -/
@[simp] theorem str_str (a : Str) : bStr [.str a] = some (.str a) := (rfl)
@[simp] theorem str_int (i : Int) : bStr [.int i] = if i.natAbs.log2 < 1920 then some (.str (Str.ofString (toString i))) else none := (rfl)
@[simp] theorem tup_lst (xs : List PV) : bTup [.lst xs] = some (.tup xs) := (rfl)
@[simp] theorem tup_tup (xs : List PV) : bTup [.tup xs] = some (.tup xs) := (rfl)
def kAg (i : Nat) (g : Int → Int → Int) (a : Int) : PV → SM
  | .int b => putV i (.int (g a b))
  | _ => fun _ => .stuck
@[simp] theorem kAg_ (i : Nat) (g : Int → Int → Int) (a b : Int) (ρ : Ev) : kAg i g a (.int b) ρ = putV i (.int (g a b)) ρ := (rfl)
def ag (i : Nat) (g : Int → Int → Int) (m : EM PV) : Option Slot → Ev → SO
  | some (.val (.int a)), ρ => (m ρ).to (kAg i g a)
  | _, _ => .stuck
@[simp] theorem ag_ (i : Nat) (g : Int → Int → Int) (m : EM PV) (a : Int) (ρ : Ev) : ag i g m (some (.val (.int a))) ρ = (m ρ).to (kAg i g a) := (rfl)
@[simp] theorem ev_aug (i : Nat) (g : Int → Int → Int) (m : EM PV) (ρ : Ev) : setAug i g m ρ = ag i g m ρ[i]? ρ := by
  have k : ∀ (a : Int), ((m ρ).to fun y ρ => (match y with
    | .int b => putV i (.int (g a b)) ρ
    | _ => .stuck)) = (m ρ).to (kAg i g a) := fun a => by
    congr 1
    funext y ρ
    cases y <;> rfl
  unfold setAug ag
  cases ρ[i]? with
  | none => rfl
  | some s =>
    cases s with
    | val x =>
      cases x with
      | int a => exact k a
      | _ => rfl
    | _ => rfl
end TR

set_option Elab.async false
set_option linter.all false
set_option maxRecDepth 100000
/-! TRZ: the law's own call where the world of classes hangs on the module. -/
namespace TR
open PySem PySem.Spec L2
set_option autoImplicit false
section
variable {D : Wd} {W : WX} {X : Cx} {e : Expr}
theorem rb_stk : RB D W X e (stk : EM Bool) := ⟨fun pins s σ H Q I ⟨G, ρ, A, k⟩ => False.elim k⟩
end
def SpL (K : PySem.W.Frag) (fm : FM) : Sp := fun vs H Q _ => ∃ (a : Addr) (ns : List Int), vs = [.ref a] ∧ SqL K H a (ns.map V.int) ∧ (∃ r, fm [.val (.lst (ns.map .int))] = .ok (.v (.bl true)) r) ∧ ∀ H', Q (.bl true) H'
theorem spL_imp {K : PySem.W.Frag} {D : Wd} {fm : FM} (hK : D.K = K) {vs : List V} {H : Hp} {Q : VK} {E : XK} (h : SpL K fm vs H Q E) : FSp D fm vs H Q E := by
  obtain ⟨a, ns, rfl, hS, ⟨r, e⟩, hQ⟩ := h
  refine ⟨H, [.val (.lst (ns.map .int))], rfl, ⟨LeG.refl H, rfl, fun i s h => ?_, fun i j b m b' m' c h1 h2 h3 h4 => ?_⟩, ?_⟩
  · cases i with
    | zero =>
      cases h
      exact ⟨_, rfl, a, _, rfl, hK ▸ hS, reps_ints ns⟩
    | succ i => simp at h
  · cases i with
    | zero => cases h1
    | succ i => simp at h1
  · rw [e]
    intro G' H' v n rr
    cases rr
    exact hQ H'
theorem law_fn2 {P : Program} {w : World} {K : PySem.W.Frag} {mg : Str → Option Value} {fa : Addr} {D : Wd} {k : Nat} {x y : Str} {fm : FM} {st : Stmt} {oc : Value} {od an : Option Addr} {osl : Array (Option Value)} {kV doc pm cdv ct : Value} {h : Heap} (hK : D.K = K) (X : K.In h) (G : h.Ns mainGlobals mg) (hfa : mg x = some (.ref fa))
    {f : Addr} (a : PySem.W.nsIn K mainGlobals x = some (some (.ref f))) (l : K.lookup f = some ⟨oc, od, .func (PySem.W.fnOf x x (defArgs st) (defBody st) (defScope st) .none kV doc pm an cdv ct), osl⟩)
    (c : PySem.W.codeIn K cdv x = true) (kp : PySem.W.keepIn K (.ref f) = true)
    (hb : ∀ (s : Shared) (v : Value), BindsTo s (PySem.W.fnOf x x (defArgs st) (defBody st) (defScope st) .none kV doc pm an cdv ct) ⟨[v], []⟩ [(y, v)])
    (F : ∀ base : Heap, FnAt P w K mg base D k x [y] fm) :
    ∃ fd : FuncData, (∀ (s : Shared) (v : Value), BindsTo s fd ⟨[v], []⟩ [(y, v)]) ∧ ∀ base : Heap, K.In base → base.Ns mainGlobals mg → FnOk P w K mg base (L2.CX P w) k fa fd [y] (SpL K fm) := by
  obtain ⟨fd, h1, h2⟩ := law_fn X G hfa a l c kp hb F
  exact ⟨fd, h1, fun base X' G' => (h2 base X' G').imp fun vs H Q E z => spL_imp hK z⟩
end TR
namespace TR
theorem whM_f {c : EM Bool} {b : SM} {ρ ρ1 : Ev} (h : c ρ = .ok false ρ1) : whM c b ρ = .nxt ρ1 := by
  rw [whM_eqn, h]
  rfl
theorem whM_t {c : EM Bool} {b : SM} {ρ ρ1 ρ2 : Ev} (h : c ρ = .ok true ρ1) (hb : b ρ1 = .nxt ρ2) : whM c b ρ = whM c b ρ2 := by
  rw [whM_eqn, h]
  show loopK (whM c b) (b ρ1) = _
  rw [hb]
  rfl
end TR

set_option Elab.async false
set_option linter.all false
set_option maxRecDepth 100000
/-! TRZA: operators that an own class defines. -/
namespace TR
open PySem PySem.Spec L2
set_option autoImplicit false
section
open PySem.W PyProof.Rows
variable {prog : Program} {w : World} {A : Around} {E : Value → Shared → Prop} {s : Shared} {K : Frag} {x y C f : Addr} {ox oy : Obj} {od ody : Option Obj} {op : Operator}
theorem own_bin {Q : Value → Shared → Prop} (X : K.In s.heap) (I : InstAt s.heap x ox C od) (J : InstAt s.heap y oy C ody) (hc : selfFirst K C = true) (hs : findIn K (.ref C) (PySem.dunder op.info.2) = some (some (.ref f))) (hf : isFn K (.ref f) = true)
    (h : wpAny (model prog w) A (call (.ref f) [.ref x, .ref y]) (PySem.W.CmpBack Q) E s) : wpAny (model prog w) A (binaryOp op (.ref x) (.ref y)) Q E s := by
  obtain ⟨cd, rest, e1, e2⟩ := ksp_first hc
  have t := ksp_try X I hs hf h
  have L1 : Looks (model prog w) s.heap (fillsNumberSlot (.ref C) op.info.2) true := fills_K X e1 e2 hs
  rcases hi : op.info with ⟨sym, nm⟩
  rw [hi] at t L1
  dsimp only at t L1
  simp only [binaryOp, hi, binaryOp1]
  apply wpAny_holding
  apply wpAny_bind
  apply wpAny_bind
  apply I.type.here
  apply wpAny_bind
  apply J.type.here
  apply wpAny_bind
  apply L1.here
  simp only [beq_self_eq_true, if_true, Bool.and_false, Bool.false_and, Bool.false_eq_true, if_false]
  obtain ⟨hh, g, d, tt, os⟩ := s
  ksp_lk
  refine wpAny_mono t (fun r s' hr => ?_) fun _ _ e => e
  obtain ⟨v, rfl, q⟩ := hr
  ksp_lk
  exact q
end
section
variable {D : Wd} {W : WX} {X : Cx} {a b : Expr} {op : Operator} {pos : Pos} {ma mb : EM PV} {k c : Nat} {nm : Str} {fm : FM} {ta tb : TE}
/-- what an operator of an own class asks -/
def tDun (X : Cx) (W : WX) (nm : Str) (ta tb : TE) : TE := fun σ H Q => ta σ H fun x H1 => tb σ H1 fun y H2 => ∃ (a b C dx dy : Addr) (fs gs : List (Str × V)) (k : Nat) (f : Addr) (fd : FuncData) (ps : List Str) (sp : Sp), x = .ref a ∧ y = .ref b ∧ H2 a = some (.ins C dx fs) ∧ H2 b = some (.ins C dy gs) ∧
  PySem.W.selfFirst X.K C = true ∧ Meth X.K C nm f ∧ Binds X.K fd ps [] ∧ FnOk X.prog X.w X.K X.mg X.base (L2.CX X.prog X.w) k f fd ps sp ∧ Room k X.A ∧ sp [x, y] H2 Q (WE W σ)
theorem pe_dun (hn : PySem.dunder op.info.2 = nm) (tk : Takes X W) (ha : PE X a ta) (hb : PE X b tb) : PE X (.BinOp a op b pos) (tDun X W nm ta tb) := ⟨fun pins s σ H Q I h => by
  refine wpAny_BinOp (thn (ha.run pins s σ H _ I h) fun u s1 ⟨x, H1, I1, rx, h1⟩ => ?_)
  refine thn (hb.run pins s1 σ H1 _ I1 h1) fun v s2 ⟨y, H2, I2, ry, h2⟩ => ?_
  obtain ⟨p, q, C, dx, dy, fs, gs, k, f, fd, ps, sp, rfl, rfl, e1, e2, hc, hm, hb, F, hr, z⟩ := h2
  cases rx
  cases ry
  obtain ⟨_, O1, _⟩ := ins_get I2.hok e1
  obtain ⟨_, O2, _⟩ := ins_get I2.hok e2
  obtain ⟨_, J1, _⟩ := O1.look
  obtain ⟨_, J2, _⟩ := O2.look
  refine own_bin I2.kIn J1 J2 hc (hn ▸ hm.at_) hm.fn (wpAny_mono (run_fnSD (E := WE W) (us := [.ref p, .ref q]) (vs := [.ref p, .ref q]) (dvs := []) (ds := []) F hr hb .nil (passAt tk σ) I2 (.cons rfl (.cons rfl .nil)) z) (fun r s3 hq => ?_) fun _ _ e => e)
  obtain ⟨x, H3, I3, rr, q3⟩ := hq
  cases r <;> first | exact ⟨x, H3, I3, rr, q3⟩ | (cases x <;> first | (cases rr; done) | (obtain ⟨_, rr⟩ := rr; cases rr))⟩
/-- the class of that number stands first in its own order, and is the only one -/
structure DunAt (D : Wd) (c : Nat) : Prop where
  sf : ∀ C, D.T c C → PySem.W.selfFirst D.K C = true
  uq : ∀ C C', D.T c C → D.T c C' → C = C'
def argsD (c : Nat) (ma mb : EM PV) : EM (List AV) := fun ρ => (ma ρ).bind fun x ρ => (mb ρ).bind fun y ρ => match x, y with
  | .obj c1 fs, .obj c2 gs => if c1 = c ∧ c2 = c then .ok [.v (.obj c1 fs), .v (.obj c2 gs)] ρ else .stuck
  | _, _ => .stuck
def dunE (c : Nat) (fm : FM) (ma mb : EM PV) : EM PV := callE fm (argsD c ma mb)
theorem re_dun (hK : D.K = X.K) (u : DunAt D c) (T : MtAt X.prog X.w X.K X.mg X.base D k nm c fm) (hr : Room k X.A) (tk : Takes X W) (ha : RE D W X a ma) (hb : RE D W X b mb) (hn : PySem.dunder op.info.2 = nm := by rfl) : RE D W X (.BinOp a op b pos) (dunE c fm ma mb) :=
  (pe_dun hn tk ha hb).imp fun σ H Q ⟨G, ρ, A, k⟩ => by
    have k' := Kg.bind (Kg.bind (Kg.map k))
    refine ⟨G, ρ, A, k'.mono fun x ρ1 G1 H1 n1 k1 v rv => ⟨G1, ρ1, n1.abs, (Kg.bind k1).mono fun y ρ2 G2 H2 n2 k2 w rw' => ?_⟩⟩
    split at k2
    · rename_i c1 fs c2 gs
      split at k2
      · rename_i hc
        obtain ⟨rfl, rfl⟩ := hc
        obtain ⟨p, C, dx, ws, e1, e2, t1, r1⟩ := rv.mono n2.leg
        obtain ⟨q, C', dy, zs, e3, e4, t2, r2⟩ := rw'
        subst e1
        subst e3
        have := u.uq _ _ t1 t2
        subst this
        obtain ⟨f, fd, ps, h1, h2, h3, h4⟩ := T.h C t1
        refine ⟨p, q, C, dx, dy, ws, zs, _, f, fd, ps, FSp D fm, rfl, rfl, n2.abs.le _ _ e2, n2.abs.le _ _ e4, hK ▸ u.sf C t1, h2, h3, h4, hr, ?_⟩
        refine call_sp (as := [.v (.obj _ fs), .v (.obj _ gs)]) n2.abs ⟨_, _, rfl, ⟨p, C, dx, ws, rfl, e2, t1, r1⟩, _, _, rfl, ⟨q, C, dy, zs, rfl, e4, t2, r2⟩, rfl⟩ (k2 G2 H2 (Nx.refl n2.abs)) fun r ρ' G' H' v n3 w p3 rr => ?_
        cases r with
        | v x => exact p3 G' H' n3 v rr
        | o mo =>
          obtain ⟨a, rfl, ga, ha, rm⟩ := rr
          obtain ⟨G3, n4, r4⟩ := nx_freeze n3 ga ha rm (ret_free n2.abs ha w)
          exact p3 G3 H' n4 _ r4
      · exact False.elim k2
    · exact False.elim k2
/-- ~ of an own class -/
def tInv (X : Cx) (W : WX) (nm : Str) (ta : TE) : TE := fun σ H Q => ta σ H fun x H2 => ∃ (a C dx : Addr) (fs : List (Str × V)) (k : Nat) (f : Addr) (fd : FuncData) (ps : List Str) (sp : Sp), x = .ref a ∧ H2 a = some (.ins C dx fs) ∧
  Meth X.K C nm f ∧ Binds X.K fd ps [] ∧ FnOk X.prog X.w X.K X.mg X.base (L2.CX X.prog X.w) k f fd ps sp ∧ Room k X.A ∧ sp [x] H2 Q (WE W σ)
theorem own_inv {M : Model} {A : Around} {E : Value → Shared → Prop} {s : Shared} {K : PySem.W.Frag} {x C f : Addr} {ox : Obj} {od : Option Obj} {Q : Value → Shared → Prop} (X : K.In s.heap) (I : PySem.W.InstAt s.heap x ox C od) (hs : PySem.W.findIn K (.ref C) "__invert__" = some (some (.ref f))) (hf : PySem.W.isFn K (.ref f) = true)
    (h : wpAny M A (call (.ref f) [.ref x]) Q E s) : wpAny M A (unaryOp .Invert (.ref x)) Q E s := by
  simp only [unaryOp]
  apply wpAny_holding
  apply wpAny_bind
  exact PySem.W.special_fn X I hs (beq_iff_eq.mp hf) (wpAny_mono h (fun v s' z => wpAny_pure z) fun _ _ z => z)
theorem pe_inv (tk : Takes X W) (ha : PE X a ta) : PE X (.UnaryOp .Invert a pos) (tInv X W "__invert__" ta) := ⟨fun pins s σ H Q I h => by
  refine PyProof.Rows.UnaryOp_ (thn (ha.run pins s σ H _ I h) fun u s1 ⟨x, H1, I1, rx, h1⟩ => ?_)
  obtain ⟨p, C, dx, fs, k, f, fd, ps, sp, rfl, e1, hm, hb, F, hr, z⟩ := h1
  cases rx
  obtain ⟨_, O1, _⟩ := ins_get I1.hok e1
  obtain ⟨_, J1, _⟩ := O1.look
  exact own_inv I1.kIn J1 hm.at_ hm.fn (run_fnSD (E := WE W) (us := [.ref p]) (vs := [.ref p]) (dvs := []) (ds := []) F hr hb .nil (passAt tk σ) I1 (.cons rfl .nil) z)⟩
def argsI (c : Nat) (ma : EM PV) : EM (List AV) := fun ρ => (ma ρ).bind fun x ρ => match x with
  | .obj c1 fs => if c1 = c then .ok [.v (.obj c1 fs)] ρ else .stuck
  | _ => .stuck
def invE (c : Nat) (fm : FM) (ma : EM PV) : EM PV := callE fm (argsI c ma)
theorem re_inv (T : MtAt X.prog X.w X.K X.mg X.base D k "__invert__" c fm) (hr : Room k X.A) (tk : Takes X W) (ha : RE D W X a ma) : RE D W X (.UnaryOp .Invert a pos) (invE c fm ma) :=
  (pe_inv tk ha).imp fun σ H Q ⟨G, ρ, A, k⟩ => by
    have k' := Kg.bind (Kg.bind (Kg.map k))
    refine ⟨G, ρ, A, k'.mono fun x ρ2 G2 H2 n2 k2 v rv => ?_⟩
    split at k2
    · rename_i c1 fs
      split at k2
      · rename_i hc
        subst hc
        obtain ⟨p, C, dx, ws, e1, e2, t1, r1⟩ := rv
        subst e1
        obtain ⟨f, fd, ps, h1, h2, h3, h4⟩ := T.h C t1
        refine ⟨p, C, dx, ws, _, f, fd, ps, FSp D fm, rfl, n2.abs.le _ _ e2, h2, h3, h4, hr, ?_⟩
        refine call_sp (as := [.v (.obj _ fs)]) n2.abs ⟨_, _, rfl, ⟨p, C, dx, ws, rfl, e2, t1, r1⟩, rfl⟩ (k2 G2 H2 (Nx.refl n2.abs)) fun r ρ' G' H' v n3 w p3 rr => ?_
        cases r with
        | v x => exact p3 G' H' n3 v rr
        | o mo =>
          obtain ⟨a, rfl, ga, ha, rm⟩ := rr
          obtain ⟨G3, n4, r4⟩ := nx_freeze n3 ga ha rm (ret_free n2.abs ha w)
          exact p3 G3 H' n4 _ r4
      · exact False.elim k2
    · exact False.elim k2
end
/-! evaluation -/
def kD2 (c : Nat) : PV → PV → Ev → Out (List AV)
  | .obj c1 fs, .obj c2 gs, ρ => if c1 = c ∧ c2 = c then .ok [.v (.obj c1 fs), .v (.obj c2 gs)] ρ else .stuck
  | _, _, _ => .stuck
@[simp] theorem kD2_ (c c1 c2 : Nat) (fs gs : List (Str × PV)) (ρ : Ev) : kD2 c (.obj c1 fs) (.obj c2 gs) ρ = if c1 = c ∧ c2 = c then .ok [.v (.obj c1 fs), .v (.obj c2 gs)] ρ else .stuck := (rfl)
def kD1 (c : Nat) (mb : EM PV) : PV → Ev → Out (List AV) := fun x ρ => (mb ρ).bind (kD2 c x)
@[simp] theorem kD1_ (c : Nat) (mb : EM PV) (x : PV) (ρ : Ev) : kD1 c mb x ρ = (mb ρ).bind (kD2 c x) := (rfl)
@[simp] theorem ev_argsD (c : Nat) (ma mb : EM PV) (ρ : Ev) : argsD c ma mb ρ = (ma ρ).bind (kD1 c mb) := by
  unfold argsD
  congr 1
  funext x ρ
  unfold kD1
  congr 1
  funext y ρ
  cases x <;> first | rfl | (cases y <;> rfl)
@[simp] theorem ev_dun (c : Nat) (fm : FM) (ma mb : EM PV) (ρ : Ev) : dunE c fm ma mb ρ = callE fm (argsD c ma mb) ρ := (rfl)
def kJ1 (c : Nat) : PV → Ev → Out (List AV)
  | .obj c1 fs, ρ => if c1 = c then .ok [.v (.obj c1 fs)] ρ else .stuck
  | _, _ => .stuck
@[simp] theorem kJ1_ (c c1 : Nat) (fs : List (Str × PV)) (ρ : Ev) : kJ1 c (.obj c1 fs) ρ = if c1 = c then .ok [.v (.obj c1 fs)] ρ else .stuck := (rfl)
@[simp] theorem ev_argsI (c : Nat) (ma : EM PV) (ρ : Ev) : argsI c ma ρ = (ma ρ).bind (kJ1 c) := by
  unfold argsI
  congr 1
  funext x ρ
  cases x <;> rfl
@[simp] theorem ev_inv (c : Nat) (fm : FM) (ma : EM PV) (ρ : Ev) : invE c fm ma ρ = callE fm (argsI c ma) ρ := (rfl)
end TR

set_option Elab.async false
set_option linter.all false
set_option maxRecDepth 100000
/-! TRZB: list comprehensions of two walks. -/
namespace TR
open PySem PySem.Spec L2
set_option autoImplicit false
/-- the heap without one object -/
def del (H : Hp) (a : Addr) : Hp := fun b => if b = a then none else H b
theorem del_self (H : Hp) (a : Addr) : del H a a = none := if_pos rfl
theorem del_ne (H : Hp) {a b : Addr} (h : b ≠ a) : del H a b = H b := if_neg h
theorem upd_del {H : Hp} {a : Addr} {o : HO} (h : H a = some o) : upd (del H a) a o = H := by
  funext b
  by_cases e : b = a
  · subst e
    rw [upd_same, h]
  · rw [upd_ne e, del_ne H e]
section
variable {D : Wd} {G H G1 H1 : Hp} {σ σ2 : St} {ρ ρ1 : Ev} {a : Addr} {o : HO}
theorem abs_del (A : Abs D G H σ ρ) (ga : G a = none) (no : ¬ Ow σ ρ a) : Abs D G (del H a) σ ρ := by
  refine ⟨fun b u h => ?_, A.len, fun i s h => ?_, A.inj⟩
  · have hb : b ≠ a := by rintro rfl; rw [ga] at h; cases h
    exact (del_ne H hb).trans (A.le b u h)
  · have q := A.sl i s h
    cases s with
    | non => trivial
    | val x => exact q
    | exn x => exact q
    | own b m =>
      obtain ⟨c, e, g, r⟩ := q
      refine ⟨c, e, g, r.mono (LeG.refl _) (del_ne H ?_)⟩
      rintro rfl
      exact no ⟨i, b, m, h, e⟩
theorem nx_del (n : Nx D G H σ ρ G1 H1 σ2 ρ1) (ha : H a = none) (ga : G1 a = none) (no : ¬ Ow σ2 ρ1 a) : Nx D G H σ ρ G1 (del H1 a) σ2 ρ1 := by
  refine ⟨abs_del n.abs ga no, n.g, fun b u h no' => ?_, fun b h => ?_, n.f, n.w, n.br, n.nb⟩
  · have hb : b ≠ a := by rintro rfl; rw [ha] at h; cases h
    exact (del_ne H1 hb).trans (n.k b u h no')
  · by_cases hb : b = a
    · rw [hb]; exact ha
    · rw [del_ne H1 hb] at h; exact n.d b h
theorem nx_add (A : Abs D G H σ ρ) (h : H a = some o) (ga : G a = none) (no : ¬ Ow σ ρ a) : Nx D G (del H a) σ ρ G H σ ρ := by
  have := nx_new (o := o) (Nx.refl (abs_del A ga no)) (del_self H a) ga no
  rwa [upd_del h] at this
/-- an object that is neither frozen nor own stays so, and as it is -/
theorem nx_stays (n : Nx D G H σ ρ G1 H1 σ2 ρ1) (h : H a = some o) (ga : G a = none) (no : ¬ Ow σ ρ a) : H1 a = some o ∧ G1 a = none ∧ ¬ Ow σ2 ρ1 a := by
  refine ⟨n.k a o h no, ?_, fun w => ?_⟩
  · cases q : G1 a with
    | none => rfl
    | some u =>
      rcases n.f a u q with z | z | z
      · rw [ga] at z; cases z
      · rw [h] at z; cases z
      · exact absurd z.ow no
  · rcases n.w a w with z | z
    · exact no z
    · rw [h] at z; cases z
end
/-- the loop of a comprehension, by its body -/
def cL (vs : List Nat) (tg : Tg) (bod : List PV → EM (List PV)) : List PV → List PV → EM (List PV)
  | [], acc => fun ρ => .ok acc ρ
  | x :: xs, acc => fun ρ => match tg x (wipeE ρ vs) with
    | some ρ1 => (bod acc ρ1).bind fun acc2 ρ2 => cL vs tg bod xs acc2 (restE ρ vs ρ2)
    | none => .stuck
def bod1 (t : EM Bool) (e : EM PV) : List PV → EM (List PV) := fun acc ρ => (noX (t ρ)).bind fun b ρ => match b with
  | true => (noX (e ρ)).bind fun y ρ => if acc.length < sizeLine then .ok (acc ++ [y]) ρ else .stuck
  | false => .ok acc ρ
def bod2 (t : EM Bool) (vs1 : List Nat) (mi1 : EM (List PV)) (tg1 : Tg) (t1 : EM Bool) (e : EM PV) : List PV → EM (List PV) := fun acc ρ => (noX (t ρ)).bind fun b ρ => match b with
  | true => (noX (mi1 ρ)).bind fun ys ρ => if saveOk ρ vs1 then cL vs1 tg1 (bod1 t1 e) ys acc ρ else .stuck
  | false => .ok acc ρ
/-- the body keeps to its pure meaning; Da is the list that grows -/
structure BdOk (D : Wd) (bod : List PV → EM (List PV)) (MB : St → Hp → (Hp → Prop) → Addr → Prop) : Prop where
  h : ∀ {Gb Hb G H : Hp} {σb σ : St} {ρb ρ ρ' : Ev} {Da : Addr} {acc acc' : List PV} {ws : List V} {Nxt : Hp → Prop}, Hb Da = none → Nx D Gb Hb σb ρb G H σ ρ → G Da = none → ¬ Ow σ ρ Da → H Da = some (.lst ws) → Reps D G acc ws → bod acc ρ = .ok acc' ρ' →
    (∀ G8 H8 ws', Nx D Gb Hb σb ρb G8 H8 σ ρ' → G8 Da = none → ¬ Ow σ ρ' Da → H8 Da = some (.lst ws') → Reps D G8 acc' ws' → Nxt H8) → MB σ H Nxt Da
/-- what the machine asks of a loop -/
def Lp (J : It) (g : TG) (vs : List Nat) (σ : St) (H0 : Hp) (Fin : Hp → Prop) (MB : St → Hp → (Hp → Prop) → Addr → Prop) (Da : Addr) : Prop := ∃ W : Nat → Nat → Hp → Prop, (∃ m, W 0 m H0) ∧ ∀ i m H, W i m H →
  (J.stop i H ∧ Fin H) ∨ (J.go i H ∧ ∃ Nxt : Hp → Prop, (∀ H', Nxt H' → ∃ m', m' < m ∧ W (i + 1) m' H') ∧ ∀ x H', J.yld i H x H' → g x (wipe σ vs) H' fun σ2 H2 => wipe σ2 vs = wipe σ vs ∧ MB σ2 H2 Nxt Da)
section
variable {D : Wd} {g : TG} {tg : Tg} {bod : List PV → EM (List PV)} {MB : St → Hp → (Hp → Prop) → Addr → Prop}
theorem out_ok {α β : Type} {o : Out α} {k : α → Ev → Out β} {y : β} {ρ : Ev} (h : o.bind k = .ok y ρ) : ∃ x ρ1, o = .ok x ρ1 ∧ k x ρ1 = .ok y ρ := by
  cases o with
  | ok x ρ1 => exact ⟨x, ρ1, rfl, h⟩
  | exc e ρ1 => cases h
  | stuck => cases h
theorem noX_ok {α : Type} {o : Out α} {x : α} {ρ : Ev} (h : noX o = .ok x ρ) : o = .ok x ρ := by
  cases o with
  | ok y ρ1 => exact h
  | exc e ρ1 => cases h
  | stuck => cases h
theorem loop_ok (bk : BdOk D bod MB) {vs : List Nat} (tk : TgX D g tg vs) {σ : St} {G1 H1 Gs Hs : Hp} {σ1 : St} {ρ1 ρs ρF : Ev} {xs accS accF : List PV} {J : It} {Da : Addr} {wsS : List V} {Fin : Hp → Prop} (jok : JOk D Gs J xs) (hDa : H1 Da = none)
    (sv : saveOk ρs vs = true) (n0 : Nx D G1 H1 σ1 ρ1 Gs Hs σ ρs) (g0 : Gs Da = none) (o0 : ¬ Ow σ ρs Da) (d0 : Hs Da = some (.lst wsS)) (r0 : Reps D Gs accS wsS) (hz : cL vs tg bod xs accS ρs = .ok accF ρF)
    (fin : ∀ G2 H2 ws, Nx D G1 H1 σ1 ρ1 G2 H2 σ ρF → G2 Da = none → ¬ Ow σ ρF Da → H2 Da = some (.lst ws) → Reps D G2 accF ws → Fin H2) : Lp J g vs σ Hs Fin MB Da := by
  refine ⟨fun i me H => me = xs.length - i ∧ i ≤ xs.length ∧ ∃ G2 ρ2 acc ws, Nx D G1 H1 σ1 ρ1 G2 H σ ρ2 ∧ (∀ a u, Gs a = some u → G2 a = some u) ∧ saveOk ρ2 vs = true ∧ G2 Da = none ∧ ¬ Ow σ ρ2 Da ∧ H Da = some (.lst ws) ∧ Reps D G2 acc ws ∧ cL vs tg bod (xs.drop i) acc ρ2 = .ok accF ρF,
    ⟨_, rfl, Nat.zero_le _, Gs, ρs, accS, wsS, n0, fun _ _ h => h, sv, g0, o0, d0, r0, hz⟩, ?_⟩
  rintro i me H ⟨rfl, hi, G2, ρ2, acc, ws, n2, gg2, sv2, gD2, oD2, hD2, rs2, e2⟩
  by_cases hlt : i < xs.length
  · obtain ⟨go, yl⟩ := (jok G2 H gg2 n2.abs.le i).1 hlt
    refine .inr ⟨go, fun H => i + 1 ≤ xs.length ∧ ∃ G2 ρ2 acc ws, Nx D G1 H1 σ1 ρ1 G2 H σ ρ2 ∧ (∀ a u, Gs a = some u → G2 a = some u) ∧ saveOk ρ2 vs = true ∧ G2 Da = none ∧ ¬ Ow σ ρ2 Da ∧ H Da = some (.lst ws) ∧ Reps D G2 acc ws ∧ cL vs tg bod (xs.drop (i + 1)) acc ρ2 = .ok accF ρF,
      fun H' h' => ⟨xs.length - (i + 1), by omega, rfl, h'⟩, fun v H' y => ?_⟩
    obtain ⟨G3, x, ex, gr, rx⟩ := yl v H' y
    have nn := n2.abs.grow gr
    have n3 := n2.trans nn
    obtain ⟨hD3, gD3, oD3⟩ := nx_stays nn hD2 gD2 oD2
    have hx : xs[i] = x := by
      have ee := List.getElem?_eq_getElem hlt
      rw [ex] at ee
      exact (Option.some.inj ee).symm
    rw [List.drop_eq_getElem_cons hlt, hx] at e2
    have e3 : (match tg x (wipeE ρ2 vs) with
      | some ρ1 => (bod acc ρ1).bind fun acc2 ρ4 => cL vs tg bod (xs.drop (i + 1)) acc2 (restE ρ2 vs ρ4)
      | none => .stuck) = .ok accF ρF := e2
    cases q : tg x (wipeE ρ2 vs) with
    | none => rw [q] at e3; cases e3
    | some ρ5 =>
      rw [q] at e3
      obtain ⟨acc2, ρ8, eb, e4⟩ := out_ok (show (bod acc ρ5).bind (fun acc2 ρ4 => cL vs tg bod (xs.drop (i + 1)) acc2 (restE ρ2 vs ρ4)) = .ok accF ρF from e3)
      have Aw : Abs D G3 H' (wipe σ vs) (wipeE ρ2 vs) := abs_wipe n3.abs
      have oW : ¬ Ow (wipe σ vs) (wipeE ρ2 vs) Da := fun ⟨j, b, m, h, f⟩ => by
        by_cases hj : j ∈ vs
        · cases wipeE_in hj h
        · rw [wipeE_out hj] at h
          rw [wipe_out hj] at f
          exact oD3 ⟨j, b, m, h, f⟩
      refine tk G3 H' (wipe σ vs) (wipeE ρ2 vs) x v ρ5 _ Aw rx q fun σ6 l6 s6 n6 => ?_
      have l6' : σ6.length = σ.length := by rw [l6, wipe_length]
      have s6' : ∀ j, j ∉ vs → σ6[j]? = σ[j]? := fun j hj => (s6 j hj).trans (wipe_out hj)
      obtain ⟨_, _, oD6⟩ := nx_stays n6 hD3 gD3 oW
      refine ⟨wipe_same l6' s6', bk.h (del_self H' Da) ((nx_add Aw hD3 gD3 oW).trans n6) gD3 oD6 hD3 (rs2.mono nn.leg) eb fun G8 H8 ws8 n8 gD8 oD8 hD8 rs8 => ⟨hlt, G8, _, acc2, ws8, ?_, fun a u h => n8.g a u (nn.g a u (gg2 a u h)), ?_, gD8, ?_, hD8, rs8, e4⟩⟩
      · exact (nx_del n3 hDa gD3 oD3).trans (nx_blk (abs_del n3.abs gD3 oD3) sv2 n8 l6' s6')
      · have ln : (restE ρ2 vs ρ8).length = ρ2.length := by rw [restE_len, ← n8.abs.len, l6', n2.abs.len]
        unfold saveOk
        rw [List.all_eq_true]
        intro j hj
        cases ej : (restE ρ2 vs ρ8)[j]? with
        | none => rfl
        | some s =>
          have q2 := restE_in hj ej
          have hjl : j < ρ2.length := by rw [← ln]; exact (List.getElem?_eq_some_iff.mp ej).1
          have q3 : ρ2[j]? = some s := by
            rw [List.getD_eq_getElem?_getD] at q2
            rw [List.getElem?_eq_getElem hjl] at q2 ⊢
            rw [q2]
            rfl
          cases s with
          | own b m => exact absurd q3 (saveOk_get sv2 hj)
          | _ => rfl
      · rintro ⟨j, b, m, h, f⟩
        by_cases hj : j ∈ vs
        · have ln : (restE ρ2 vs ρ8).length = ρ2.length := by rw [restE_len, ← n8.abs.len, l6', n2.abs.len]
          have q2 := restE_in hj h
          have hjl : j < ρ2.length := by rw [← ln]; exact (List.getElem?_eq_some_iff.mp h).1
          refine saveOk_get sv2 hj (b := b) (m := m) ?_
          rw [List.getD_eq_getElem?_getD] at q2
          rw [List.getElem?_eq_getElem hjl] at q2 ⊢
          rw [q2]
          rfl
        · rw [restE_out hj] at h
          rw [← s6' j hj] at f
          exact oD8 ⟨j, b, m, h, f⟩
  · refine .inl ⟨(jok G2 H gg2 n2.abs.le i).2 (by omega), ?_⟩
    rw [List.drop_eq_nil_of_le (by omega)] at e2
    have e3 : (.ok acc ρ2 : Out (List PV)) = .ok accF ρF := e2
    cases e3
    exact fin G2 H ws n2 gD2 oD2 hD2 rs2
/-- the body of one walk -/
theorem bd1 {t : EM Bool} {m : EM PV} : BdOk D (bod1 t m) fun σ H Nxt Da => tB D W0 t σ H fun b H3 => if b = true then tE D W0 m σ H3 (fun y H4 => ∃ acc, H4 Da = some (.lst acc) ∧ acc.length < sizeLine ∧ Nxt (upd H4 Da (.lst (acc ++ [y])))) else Nxt H3 := ⟨by
  intro Gb Hb G H σb σ ρb ρ ρ' Da acc acc' ws Nxt hb n gD oD hD rs e fin
  obtain ⟨b, ρ7, e7, e8⟩ := out_ok (show (noX (t ρ)).bind _ = .ok acc' ρ' from e)
  have e7 := noX_ok e7
  refine ⟨G, ρ, n.abs, ?_⟩
  rw [e7]
  intro G7 H7 n7
  obtain ⟨hD7, gD7, oD7⟩ := nx_stays n7 hD gD oD
  cases b with
  | false =>
    cases e8
    refine Eq.mpr (if_neg Bool.false_ne_true) ?_
    exact fin G7 H7 ws (n.trans n7) gD7 oD7 hD7 (rs.mono n7.leg)
  | true =>
    refine Eq.mpr (if_pos rfl) ?_
    obtain ⟨y, ρ8, e9, e10⟩ := out_ok (show (noX (m ρ7)).bind _ = .ok acc' ρ' from e8)
    have e9 := noX_ok e9
    refine ⟨G7, ρ7, n7.abs, ?_⟩
    rw [e9]
    intro G8 H8 n8 w rw'
    obtain ⟨hD8, gD8, oD8⟩ := nx_stays n8 hD7 gD7 oD7
    have rs8 : Reps D G8 acc ws := rs.mono (n7.leg.trans n8.leg)
    by_cases hz : acc.length < sizeLine
    · rw [if_pos hz] at e10
      cases e10
      exact ⟨ws, hD8, by rw [rs8.length]; exact hz, fin G8 _ (ws ++ [w]) (nx_new ((n.trans n7).trans n8) hb gD8 oD8) gD8 oD8 upd_same (rs8.append (Reps.one rw'))⟩
    · rw [if_neg hz] at e10
      cases e10⟩
/-- the body that walks once more -/
theorem bd2 {t t1 : EM Bool} {m : EM PV} {vs1 : List Nat} {mi1 : EM (List PV)} {g1 : TG} {tg1 : Tg} (tk1 : TgX D g1 tg1 vs1) : BdOk D (bod2 t vs1 mi1 tg1 t1 m) fun σ H Nxt Da => tB D W0 t σ H fun b H3 => if b = true then tI D W0 mi1 σ H3 (fun J1 H4 => Lp J1 g1 vs1 σ H4 Nxt (fun σ H Nxt Da => tB D W0 t1 σ H fun b H3 => if b = true then tE D W0 m σ H3 (fun y H4 => ∃ acc, H4 Da = some (.lst acc) ∧ acc.length < sizeLine ∧ Nxt (upd H4 Da (.lst (acc ++ [y])))) else Nxt H3) Da) else Nxt H3 := ⟨by
  intro Gb Hb G H σb σ ρb ρ ρ' Da acc acc' ws Nxt hb n gD oD hD rs e fin
  obtain ⟨b, ρ7, e7, e8⟩ := out_ok (show (noX (t ρ)).bind _ = .ok acc' ρ' from e)
  have e7 := noX_ok e7
  refine ⟨G, ρ, n.abs, ?_⟩
  rw [e7]
  intro G7 H7 n7
  obtain ⟨hD7, gD7, oD7⟩ := nx_stays n7 hD gD oD
  cases b with
  | false =>
    cases e8
    refine Eq.mpr (if_neg Bool.false_ne_true) ?_
    exact fin G7 H7 ws (n.trans n7) gD7 oD7 hD7 (rs.mono n7.leg)
  | true =>
    refine Eq.mpr (if_pos rfl) ?_
    obtain ⟨ys, ρ8, e9, e10⟩ := out_ok (show (noX (mi1 ρ7)).bind _ = .ok acc' ρ' from e8)
    have e9 := noX_ok e9
    refine ⟨G7, ρ7, n7.abs, ?_⟩
    rw [e9]
    intro G8 H8 n8 J jok
    obtain ⟨hD8, gD8, oD8⟩ := nx_stays n8 hD7 gD7 oD7
    have rs8 : Reps D G8 acc ws := rs.mono (n7.leg.trans n8.leg)
    by_cases hz : saveOk ρ8 vs1 = true
    · rw [if_pos hz] at e10
      exact loop_ok bd1 tk1 jok hb hz ((n.trans n7).trans n8) gD8 oD8 hD8 rs8 e10 fun G2 H2 ws2 n2 g2 o2 d2 r2 => fin G2 H2 ws2 n2 g2 o2 d2 r2
    · rw [if_neg hz] at e10
      cases e10⟩
end
def cmp2M (vs : List Nat) (mi : EM (List PV)) (tg : Tg) (bod : List PV → EM (List PV)) : EM MO := fun ρ => (mi ρ).bind fun xs ρ => if saveOk ρ vs then (noX (cL vs tg bod xs [] ρ)).bind fun ys ρ => .ok (.lst ys) ρ else .stuck
section
variable {D : Wd} {W : WX} {X : Cx} {elt tgt iter tgt1 iter1 e : Expr} {ifs ifs1 : List Expr} {scope : Scope} {own : List (Str × Nat)} {pos : Pos} {g g1 : TG} {tg tg1 : Tg} {t t1 : EM Bool} {m : EM PV} {mi mi1 : EM (List PV)} {vs1 : List Nat}
theorem cmp2_le {vs : List Nat} (tk : TgX D g tg vs) (tk1 : TgX D g1 tg1 vs1) (σ : St) (H : Hp) (Q : VK) (h : tN D W (cmp2M vs mi tg (bod2 t vs1 mi1 tg1 t1 m)) σ H Q) : tLc2 (tI D W mi) g (tB D W0 t) (tI D W0 mi1) g1 (tB D W0 t1) (tE D W0 m) vs vs1 σ H Q := by
  obtain ⟨G, ρ, A, k⟩ := h
  have k' : Kg D W ((mi ρ).bind fun xs ρ => if saveOk ρ vs then (noX (cL vs tg (bod2 t vs1 mi1 tg1 t1 m) xs [] ρ)).bind fun ys ρ => (.ok (.lst ys) ρ : Out MO) else .stuck) G H σ ρ fun mo ρ' G' H' => ∀ a, G' a = none → H a = none → MRep D G' H' a mo → ¬ Ow σ ρ' a → Q (.ref a) H' := k
  refine ⟨G, ρ, A, (Kg.bind k').mono fun xs ρ1 G1 H1 n1 k1 J jok => ?_⟩
  intro Da hDa
  by_cases sv : saveOk ρ1 vs = true
  · rw [if_pos sv] at k1
    cases hz : cL vs tg (bod2 t vs1 mi1 tg1 t1 m) xs [] ρ1 with
    | stuck => rw [hz] at k1; exact k1.elim
    | exc e ρ' => rw [hz] at k1; exact k1.elim
    | ok ys ρ2 =>
      rw [hz] at k1
      have gD : G1 Da = none := by
        cases q : G1 Da with
        | none => rfl
        | some u =>
          have e := n1.abs.le Da u q
          rw [hDa] at e; cases e
      have oD : ¬ Ow σ ρ1 Da := fun w => by
        obtain ⟨⟨o, ho⟩, _⟩ := n1.abs.ow_some w
        rw [hDa] at ho; cases ho
      have n0 : Nx D G1 H1 σ ρ1 G1 (upd H1 Da (.lst [])) σ ρ1 := nx_new (Nx.refl n1.abs) hDa gD oD
      have lp := loop_ok (Fin := Q (.ref Da)) (accS := []) (wsS := []) (bd2 tk1) tk jok hDa sv n0 gD oD upd_same (show Reps D G1 [] [] from rfl) hz fun G2 H2 ws n2 g2 o2 d2 r2 => k1 G2 H2 n2 Da g2 (n1.d Da hDa) ⟨ws, d2, r2⟩ o2
      exact lp
  · rw [if_neg sv] at k1
    exact k1.elim
theorem rn_lc2 (hc : X.calm = true) (hN : X.N.Nodup) (ok : BlkOk X.N X.env.scope scope own) (hv : ∀ i ∈ vs1, i ∈ own.map (·.2)) (tk : TgX D g tg (own.map (·.2))) (tk1 : TgX D g1 tg1 vs1) (hi : RI D W X tgt iter mi)
    (hg : ∀ (s : Shared) (H : Hp) (C : Addr) (cl : List (Str × Addr)) (fp : List Addr), PG (X.blk s H scope (compEnvC scope cl C X.env) fp) tgt g)
    (ht : ∀ (s : Shared) (H : Hp) (C : Addr) (cl : List (Str × Addr)) (fp : List Addr), PTs (X.blk s H scope (compEnvC scope cl C X.env) fp) ifs (tB D W0 t))
    (hi1 : ∀ (s : Shared) (H : Hp) (C : Addr) (cl : List (Str × Addr)) (fp : List Addr), RI D W0 (X.blk s H scope (compEnvC scope cl C X.env) fp) tgt1 iter1 mi1)
    (hg1 : ∀ (s : Shared) (H : Hp) (C : Addr) (cl : List (Str × Addr)) (fp : List Addr), PG (X.blk s H scope (compEnvC scope cl C X.env) fp) tgt1 g1)
    (ht1 : ∀ (s : Shared) (H : Hp) (C : Addr) (cl : List (Str × Addr)) (fp : List Addr), PTs (X.blk s H scope (compEnvC scope cl C X.env) fp) ifs1 (tB D W0 t1))
    (he : ∀ (s : Shared) (H : Hp) (C : Addr) (cl : List (Str × Addr)) (fp : List Addr), RE D W0 (X.blk s H scope (compEnvC scope cl C X.env) fp) elt m) (hs : ∀ x, foldedSetIterable iter X.env x = pure x := by intro _; rfl) (hs1 : ∀ env x, foldedSetIterable iter1 env x = pure x := by intro _ _; rfl) :
    RN D W X (.ListComp elt [⟨tgt, iter, ifs, 0⟩, ⟨tgt1, iter1, ifs1, 0⟩] scope pos) (cmp2M (own.map (·.2)) mi tg (bod2 t vs1 mi1 tg1 t1 m)) := (pe_lc2 hc hN hi ok hv hg ht hi1 hg1 ht1 he hs hs1).imp (cmp2_le tk tk1)
theorem s_setLc2 {i : Nat} {y : Str} {py spos : Pos} (hc : X.calm = true) (hN : X.N.Nodup) (hy : X.N[i]? = some y) (hyl : X.env.scope.names.lookup y = some .local)
    (hsw : swapsWith (.ListComp elt [⟨tgt, iter, ifs, 0⟩, ⟨tgt1, iter1, ifs1, 0⟩] scope pos) (some (.Name y py)) spos.line X.env = pure true) (ok : BlkOk X.N X.env.scope scope own) (hv : ∀ i ∈ vs1, i ∈ own.map (·.2)) (tk : TgX D g tg (own.map (·.2))) (tk1 : TgX D g1 tg1 vs1) (hi : RI D W X tgt iter mi)
    (hg : ∀ (s : Shared) (H : Hp) (C : Addr) (cl : List (Str × Addr)) (fp : List Addr), PG (X.blk s H scope (compEnvC scope cl C X.env) fp) tgt g)
    (ht : ∀ (s : Shared) (H : Hp) (C : Addr) (cl : List (Str × Addr)) (fp : List Addr), PTs (X.blk s H scope (compEnvC scope cl C X.env) fp) ifs (tB D W0 t))
    (hi1 : ∀ (s : Shared) (H : Hp) (C : Addr) (cl : List (Str × Addr)) (fp : List Addr), RI D W0 (X.blk s H scope (compEnvC scope cl C X.env) fp) tgt1 iter1 mi1)
    (hg1 : ∀ (s : Shared) (H : Hp) (C : Addr) (cl : List (Str × Addr)) (fp : List Addr), PG (X.blk s H scope (compEnvC scope cl C X.env) fp) tgt1 g1)
    (ht1 : ∀ (s : Shared) (H : Hp) (C : Addr) (cl : List (Str × Addr)) (fp : List Addr), PTs (X.blk s H scope (compEnvC scope cl C X.env) fp) ifs1 (tB D W0 t1))
    (he : ∀ (s : Shared) (H : Hp) (C : Addr) (cl : List (Str × Addr)) (fp : List Addr), RE D W0 (X.blk s H scope (compEnvC scope cl C X.env) fp) elt m) (hs : ∀ x, foldedSetIterable iter X.env x = pure x := by intro _; rfl) (hs1 : ∀ env x, foldedSetIterable iter1 env x = pure x := by intro _ _; rfl) :
    RS D W X (.Assign [.Name y py] (.ListComp elt [⟨tgt, iter, ifs, 0⟩, ⟨tgt1, iter1, ifs1, 0⟩] scope pos) spos) (setO i (cmp2M (own.map (·.2)) mi tg (bod2 t vs1 mi1 tg1 t1 m))) :=
  (ps_setLc2 hc hN hy hyl hsw hi ok hv hg ht hi1 hg1 ht1 he hs hs1).imp fun E σ H ⟨G, ρ, A, k⟩ => by
    refine cmp2_le (W := W) tk tk1 σ H _ ⟨G, ρ, A, ?_⟩
    unfold setO at k
    revert k
    cases cmp2M (own.map (·.2)) mi tg (bod2 t vs1 mi1 tg1 t1 m) ρ with
    | stuck => exact fun k => k
    | exc e ρ' => exact fun k G' H' c d n er => k G' H' σ c d n er
    | ok mo ρ' =>
      intro k G' H' n ad g ha r no
      rw [Out.to_ok] at k
      unfold putO at k
      split at k
      · rename_i h
        exact k G' H' _ (nx_putO n g ha r no (mayPut_no h))
      · exact False.elim k
end
/-! evaluation -/
def kCn (vs : List Nat) (tg : Tg) (bod : List PV → EM (List PV)) : List PV → Ev → Out MO := fun xs ρ => if saveOk ρ vs = true then (noX (cL vs tg bod xs [] ρ)).bind kLs2 else .stuck
@[simp] theorem kCn_ (vs : List Nat) (tg : Tg) (bod : List PV → EM (List PV)) (xs : List PV) (ρ : Ev) : kCn vs tg bod xs ρ = if saveOk ρ vs = true then (noX (cL vs tg bod xs [] ρ)).bind kLs2 else .stuck := (rfl)
@[simp] theorem ev_cmp2 (vs : List Nat) (mi : EM (List PV)) (tg : Tg) (bod : List PV → EM (List PV)) (ρ : Ev) : cmp2M vs mi tg bod ρ = (mi ρ).bind (kCn vs tg bod) := (rfl)
@[simp] theorem cL_nil (vs : List Nat) (tg : Tg) (bod : List PV → EM (List PV)) (acc : List PV) (ρ : Ev) : cL vs tg bod [] acc ρ = .ok acc ρ := (rfl)
@[simp] theorem noX_okk {α : Type} (x : α) (ρ : Ev) : noX (.ok x ρ) = .ok x ρ := (rfl)
theorem cL_rule {vs : List Nat} {tg : Tg} {bod : List PV → EM (List PV)} (R : List PV → List PV → Ev → Prop)
    (step : ∀ x xs acc ρ, R (x :: xs) acc ρ → ∃ ρ1 acc2 ρ2, tg x (wipeE ρ vs) = some ρ1 ∧ bod acc ρ1 = .ok acc2 ρ2 ∧ R xs acc2 (restE ρ vs ρ2)) :
    ∀ (xs acc : List PV) (ρ : Ev), R xs acc ρ → ∃ ys ρ', cL vs tg bod xs acc ρ = .ok ys ρ' ∧ R [] ys ρ'
  | [], acc, ρ, h => ⟨acc, ρ, rfl, h⟩
  | x :: xs, acc, ρ, h => by
    obtain ⟨ρ1, acc2, ρ2, e1, e2, r⟩ := step x xs acc ρ h
    obtain ⟨ys, ρ', q1, q2⟩ := cL_rule R step xs acc2 _ r
    refine ⟨ys, ρ', ?_, q2⟩
    rw [cL]
    simp only [e1, e2]
    exact q1
/-- the body of one walk, with no test -/
theorem bod1_ok {e : EM PV} {acc : List PV} {ρ ρ' : Ev} {y : PV} (h : e ρ = .ok y ρ') (hl : acc.length < sizeLine) : bod1 noT e acc ρ = .ok (acc ++ [y]) ρ' := by
  show (noX (e ρ)).bind _ = _
  rw [h]
  show (if acc.length < sizeLine then Out.ok (acc ++ [y]) ρ' else .stuck) = _
  rw [if_pos hl]
theorem bod2_ok {vs1 : List Nat} {mi1 : EM (List PV)} {tg1 : Tg} {t1 : EM Bool} {e : EM PV} {acc acc' ys : List PV} {ρ ρ1 ρ' : Ev} (h : mi1 ρ = .ok ys ρ1) (hs : saveOk ρ1 vs1 = true) (hc : cL vs1 tg1 (bod1 t1 e) ys acc ρ1 = .ok acc' ρ') : bod2 noT vs1 mi1 tg1 t1 e acc ρ = .ok acc' ρ' := by
  show (noX (mi1 ρ)).bind _ = _
  rw [h]
  show (if saveOk ρ1 vs1 = true then cL vs1 tg1 (bod1 t1 e) ys acc ρ1 else .stuck) = _
  rw [if_pos hs, hc]
end TR

set_option Elab.async false
set_option linter.all false
set_option maxRecDepth 100000
/-! TRZC: isinstance with a tuple of types, calls with keywords and defaults, classes made so. -/
namespace TR
open PySem PySem.Spec L2
set_option autoImplicit false
section
variable {D : Wd} {W : WX} {X : Cx} {e o : Expr} {es : List Expr} {pos p p2 p3 p4 p6 kpos : Pos} {p5 : Nat} {m mo : EM PV} {ms mk : EM (List AV)} {G G1 G' H H1 H2 H' : Hp} {kws : List Keyword} {nm : Option Str}
/-! ### isinstance(e, (T1, T2)) -/
def isTM (m : EM PV) (Ts : List Ty) : EM PV := fun ρ => (m ρ).bind fun x ρ => .ok (.bl (Ts.any fun T => isTy x T)) ρ
theorem kit_any2 {K : PySem.W.Frag} {t : Value} {x : PV} (f : ∀ T : Ty, PySem.W.kitOne K t (.type T.nm) = some (isTy x T)) (T1 T2 : Ty) : PySem.W.kitAny K t [.type T1.nm, .type T2.nm] = some ([T1, T2].any fun T => isTy x T) := by
  refine kitAny_cons (f T1) (fun h1 => kitAny_cons (f T2) (fun h2 => ?_) fun h2 => ?_) fun h1 => ?_
  · rw [kitAny_nil]; simp [h1, h2]
  · simp [h1, h2]
  · simp [h1]
theorem RepH.up (l : LeG H H') {x : PV} {v : V} (r : RepH D G H x v) : RepH D G H' x v := by
  cases x with
  | lst xs => obtain ⟨a, vs, e, q, r⟩ := r; exact ⟨a, vs, e, sqL_mono l q, r⟩
  | dct xs => obtain ⟨a, ws, e, q, r⟩ := r; exact ⟨a, ws, e, l _ _ q, r⟩
  | obj c fs => obtain ⟨a, C, dx, ws, e, q, t, r⟩ := r; exact ⟨a, C, dx, ws, e, l _ _ q, t, r⟩
  | _ => exact r
theorem re_isT2 (hT : IsAll D) (T1 T2 : Ty) {x y : Str} (hK : D.K = X.K) (he : RP D W X e m) (hg : Gl X "isinstance") (hm : X.mg "isinstance" = none) (hg2 : Gl X x) (hm2 : X.mg x = none) (hg3 : Gl X y) (hm3 : X.mg y = none) (hv2 : bootBuiltins x = some (.type T1.nm)) (hv3 : bootBuiltins y = some (.type T2.nm))
    (hn2 : x ≠ "__name__" := by decide) (hd2 : (x == ("__debug__" : Str)) = false := by decide) (hn3 : y ≠ "__name__" := by decide) (hd3 : (y == ("__debug__" : Str)) = false := by decide)
    (hs : starEach [e, .Tuple [.Name x p3, .Name y p4] p5 p6] X.env = (false, eval e X.env) :: starEach [.Tuple [.Name x p3, .Name y p4] p5 p6] X.env := by rfl)
    (hs2 : starEach [.Tuple [.Name x p3, .Name y p4] p5 p6] X.env = (false, eval (.Tuple [.Name x p3, .Name y p4] p5 p6) X.env) :: starEach [] X.env := by rfl)
    (ht : starEach [.Name x p3, .Name y p4] X.env = (false, eval (.Name x p3) X.env) :: starEach [.Name y p4] X.env := by rfl) (ht2 : starEach [.Name y p4] X.env = (false, eval (.Name y p4) X.env) :: starEach [] X.env := by rfl)
    (hpl : (backTo p2 (starEach [.Tuple [.Name x p3, .Name y p4] p5 p6] X.env)).any (·.1) = false := by rfl) :
    RE D W X (.Call (.Name "isinstance" p) [e, .Tuple [.Name x p3, .Name y p4] p5 p6] [] p2) (isTM m [T1, T2]) :=
  (pe_callB call_isiT hg hm PyProof.Rows.boot_isinstance (pa_cons he (pa_cons (pe_tup (pa_cons (pe_bltn hg2 hm2 hv2 (show RelV (.ty T1.nm) (.type T1.nm) from rfl) hn2 hd2) (pa_cons (pe_bltn hg3 hm3 hv3 (show RelV (.ty T2.nm) (.type T2.nm) from rfl) hn3 hd3) pa_nil ht2) ht)) pa_nil hs2) hs) (by decide) (by decide) hs hpl).imp fun σ H Q ⟨G, ρ, A, k⟩ =>
    ⟨G, ρ, A, (Kg.bind k).mono fun x' ρ1 G1 H1 n1 k1 v rv => by
      refine ⟨by rw [sizeLine_eq]; simp, fun q hq => ?_⟩
      have gr := Grow.newH (o := .tup [.ty T1.nm, .ty T2.nm]) n1.abs.le hq
      obtain ⟨t, ty, f, _⟩ := ty_of hT gr.le (rv.up (LeG.of_same fun a u h => gr.k a u h))
      exact ⟨v, q, _, t, [.type T1.nm, .type T2.nm], _, rfl, upd_same, .cons (.ty _) (.cons (.ty _) .nil), hK ▸ ty, kit_any2 (hK ▸ f) T1 T2, k1 G1 _ (n1.abs.grow gr) _ rfl⟩⟩
def kIT (Ts : List Ty) : PV → Ev → Out PV := fun x ρ => .ok (.bl (Ts.any fun T => isTy x T)) ρ
@[simp] theorem kIT_ (Ts : List Ty) (x : PV) (ρ : Ev) : kIT Ts x ρ = .ok (.bl (Ts.any fun T => isTy x T)) ρ := (rfl)
@[simp] theorem ev_isTM (m : EM PV) (Ts : List Ty) (ρ : Ev) : isTM m Ts ρ = (m ρ).bind (kIT Ts) := (rfl)

/-! ### calls with keywords and defaults -/
/-- where a parameter's value comes from: the j-th of the values told (the keywords' behind the others), or a default -/
inductive Src where
  | at (i : Nat) | df (j : Nat) (x : PV)
def Src.av (as : List AV) : Src → AV
  | .at i => as.getD i (.v .non)
  | .df _ x => .v x
def Src.sv (dV : Nat → V) (vs : List V) : Src → V
  | .at i => vs.getD i .non
  | .df j _ => dV j
def Src.uv (dU : Nat → Value) (us : List Value) : Src → Value
  | .at i => us.getD i .none
  | .df j _ => dU j
structure KwB (K : PySem.W.Frag) (D : Wd) (fd : FuncData) (ps : List Str) (n : Nat) (ks : List Str) (arr : List Src) : Prop where
  ex : ∃ (dU : Nat → Value) (dV : Nat → V), (∀ j x, Src.df j x ∈ arr → RelV (dV j) (dU j) ∧ ∀ G, Rep D G x (dV j)) ∧ ∀ (s : Shared) (us ws : List Value), K.In s.heap → us.length = n → ws.length = ks.length → BindsTo s fd ⟨us, ks.zip ws⟩ (ps.zip (arr.map (Src.uv dU (us ++ ws))))
theorem vals_getD : ∀ {vs : List V} {us : List Value} (i : Nat), Vals vs us → RelV (vs.getD i .non) (us.getD i .none)
  | _, _, i, .nil => by simp; rfl
  | _, _, 0, .cons r t => r
  | _, _, i + 1, .cons r t => by simpa using vals_getD i t
theorem vals_arr {dV : Nat → V} {dU : Nat → Value} {vs : List V} {us : List Value} (r : Vals vs us) : ∀ (arr : List Src), (∀ j x, Src.df j x ∈ arr → RelV (dV j) (dU j)) → Vals (arr.map (Src.sv dV vs)) (arr.map (Src.uv dU us))
  | [], _ => .nil
  | .at i :: arr, h => .cons (vals_getD i r) (vals_arr r arr fun j x m => h j x (List.mem_cons_of_mem _ m))
  | .df i y :: arr, h => .cons (h i y List.mem_cons_self) (vals_arr r arr fun j x m => h j x (List.mem_cons_of_mem _ m))
theorem avs_getD {σ : St} {as : List AV} {vs : List V} (h : AVs D G σ as vs) (i : Nat) : (∃ x, as.getD i (.v .non) = .v x ∧ Rep D G x (vs.getD i .non)) ∨ ∃ j, as.getD i (.v .non) = .s j ∧ σ[j]? = some (some (vs.getD i .non)) := by
  induction as generalizing vs i with
  | nil =>
    rw [show vs = [] from h]
    exact .inl ⟨.non, by simp, by simp [Rep]⟩
  | cons a as ih =>
    cases a with
    | v x =>
      obtain ⟨v, ws, rfl, h1, h2⟩ := h
      cases i with
      | zero => exact .inl ⟨x, rfl, h1⟩
      | succ i => simpa using ih h2 i
    | s x =>
      obtain ⟨v, ws, rfl, h1, h2⟩ := h
      cases i with
      | zero => exact .inr ⟨x, rfl, h1⟩
      | succ i => simpa using ih h2 i
theorem avs_arr {σ : St} {dV : Nat → V} {as : List AV} {vs : List V} (h : AVs D G σ as vs) : ∀ (arr : List Src), (∀ j x, Src.df j x ∈ arr → Rep D G x (dV j)) → AVs D G σ (arr.map (Src.av as)) (arr.map (Src.sv dV vs))
  | [], _ => rfl
  | .df i y :: arr, k => ⟨_, _, rfl, k i y List.mem_cons_self, avs_arr h arr fun j x m => k j x (List.mem_cons_of_mem _ m)⟩
  | .at i :: arr, k => by
    have r := avs_arr h arr fun j x m => k j x (List.mem_cons_of_mem _ m)
    show AVs D G σ (as.getD i (.v .non) :: arr.map (Src.av as)) (vs.getD i .non :: arr.map (Src.sv dV vs))
    rcases avs_getD h i with ⟨x, e, q⟩ | ⟨j, e, q⟩
    · rw [e]; exact ⟨_, _, rfl, q, r⟩
    · rw [e]; exact ⟨_, _, rfl, q, r⟩
theorem avs_app {σ : St} : ∀ {as bs : List AV} {vs ws : List V}, AVs D G σ as vs → AVs D G σ bs ws → AVs D G σ (as ++ bs) (vs ++ ws)
  | [], _, _, _, h, k => by rw [show _ = [] from h]; exact k
  | .v x :: as, bs, _, ws, h, k => by
    obtain ⟨v, r, rfl, h1, h2⟩ := h
    exact ⟨v, r ++ ws, rfl, h1, avs_app h2 k⟩
  | .s x :: as, bs, _, ws, h, k => by
    obtain ⟨v, r, rfl, h1, h2⟩ := h
    exact ⟨v, r ++ ws, rfl, h1, avs_app h2 k⟩
theorem avs_len {σ : St} : ∀ {as : List AV} {vs : List V}, AVs D G σ as vs → vs.length = as.length
  | [], _, h => by rw [show _ = [] from h]; rfl
  | .v x :: as, _, h => by
    obtain ⟨v, r, rfl, h1, h2⟩ := h
    simp [avs_len h2]
  | .s x :: as, _, h => by
    obtain ⟨v, r, rfl, h1, h2⟩ := h
    simp [avs_len h2]
/-- the values told, put in the parameters' order -/
def argsK (n m : Nat) (arr : List Src) (ms mk : EM (List AV)) : EM (List AV) := fun ρ => (ms ρ).bind fun as ρ => (mk ρ).bind fun bs ρ => if as.length = n ∧ bs.length = m then .ok (arr.map (Src.av (as ++ bs))) ρ else .stuck
theorem argsK_le {n m : Nat} {arr : List Src} {dV : Nat → V} (hd : ∀ j x, Src.df j x ∈ arr → ∀ G, Rep D G x (dV j)) (σ : St) (H : Hp) (R : List V → Hp → Prop) (h : tA D W (argsK n m arr ms mk) σ H R) :
    tA D W ms σ H fun vs H1 => tA D W mk σ H1 fun zs H2 => vs.length = n ∧ zs.length = m ∧ R (arr.map (Src.sv dV (vs ++ zs))) H2 := by
  obtain ⟨G, ρ, A, k⟩ := h
  refine ⟨G, ρ, A, (Kg.bind k).mono fun as ρ1 G1 H1 n1 k1 vs rv => ⟨G1, ρ1, n1.abs, (Kg.bind k1).mono fun bs ρ2 G2 H2 n2 k2 zs rz => ?_⟩⟩
  split at k2
  · rename_i hl
    refine ⟨(avs_len rv).trans hl.1, (avs_len rz).trans hl.2, k2 G2 H2 (Nx.refl n2.abs) _ (avs_arr (avs_app (rv.mono n2.leg) rz) arr fun j x m => hd j x m G2)⟩
  · exact False.elim k2
abbrev RK (D : Wd) (W : WX) (X : Cx) (kws : List Keyword) (m : EM (List AV)) : Prop := PK X kws (tA D W m)
theorem pk_imp {t t' : TA} (h : PK X kws t) (i : ∀ σ H Q, t' σ H Q → t σ H Q) : PK X kws t' := ⟨fun pos pins s σ H Q I w => h.run pos pins s σ H Q I (i _ _ _ w)⟩
theorem rk_nil : RK D W X [] argNil := pk_imp pk_nil fun σ H Q ⟨G, ρ, A, k⟩ => k G H (Nx.refl A) [] rfl
theorem rk_v (h : RE D W X e m) (r : RK D W X kws ms) : RK D W X (⟨nm, e, kpos⟩ :: kws) (argV m ms) :=
  pk_imp (pk_cons h r) fun σ H Q ⟨G, ρ, A, k⟩ => ⟨G, ρ, A, (Kg.bind k).mono fun x ρ1 G1 H1 n1 k1 v rv => ⟨G1, ρ1, n1.abs, (Kg.bind k1).mono fun as ρ2 G2 H2 n2 k2 vs rs => k2 G2 H2 (Nx.refl n2.abs) (v :: vs) ⟨v, vs, rfl, rv.mono n2.leg, rs⟩⟩⟩
theorem rk_n (i : Nat) (h : PE X e (tVar i)) (r : RK D W X kws ms) : RK D W X (⟨nm, e, kpos⟩ :: kws) (argN i ms) :=
  pk_imp (pk_cons h r) fun σ H Q ⟨G, ρ, A, k⟩ => by
    obtain ⟨x, v, ev, r0, k0⟩ := peek_ok A (Kg.bind k)
    exact ⟨v, ev, G, ρ, A, (Kg.bind k0).mono fun as ρ2 G2 H2 n2 k2 vs rs => k2 G2 H2 (Nx.refl n2.abs) (v :: vs) ⟨v, vs, rfl, ev, rs⟩⟩
/-- a def called with keywords: the forms of the calls that are met -/
structure Sh where
  n : Nat
  ks : List Str
  arr : List Src
structure DefAtK (K : PySem.W.Frag) (mg : Str → Option Value) (D : Wd) (x : Str) (st : Stmt) (ps : List Str) (shs : List Sh) : Prop where
  ex : ∃ (f : Addr) (fd : FuncData), mg x = some (.ref f) ∧ Fun K x x st f fd ∧ ∀ sh ∈ shs, KwB K D fd ps sh.n sh.ks sh.arr
structure FnAtK (P : Program) (w : World) (K : PySem.W.Frag) (mg : Str → Option Value) (base : Heap) (D : Wd) (k : Nat) (x : Str) (ps : List Str) (shs : List Sh) (fm : FM) : Prop where
  ex : ∃ (f : Addr) (fd : FuncData), mg x = some (.ref f) ∧ PySem.W.keepIn K (.ref f) = true ∧ (∀ sh ∈ shs, KwB K D fd ps sh.n sh.ks sh.arr) ∧ FnOk P w K mg base (L2.CX P w) k f fd ps (FSp D fm)
theorem FnAtK.mono {P : Program} {w : World} {K : PySem.W.Frag} {mg : Str → Option Value} {base : Heap} {j k : Nat} {x : Str} {ps : List Str} {shs : List Sh} {fm : FM} (h : FnAtK P w K mg base D j x ps shs fm) (l : j ≤ k) : FnAtK P w K mg base D k x ps shs fm :=
  let ⟨f, fd, a, b, c, F⟩ := h.ex; ⟨f, fd, a, b, c, F.mono l⟩
theorem fnK_at {P : Program} {w : World} {K : PySem.W.Frag} {mg : Str → Option Value} {base : Heap} {x : Str} {st : Stmt} {N ps : List Str} {shs : List Sh} {k n : Nat} {body : SM} (d : DefAtK K mg D x st ps shs) (S : FnScope N ps (defScope st)) (hn : ps.length = n) (hN : n ≤ N.length)
    (hb : ∀ {f : Addr} (cdv : Value) (A : Around) (outer : List Env) (s : Shared) (H : Hp) (E : XK), Room k (A.deeper (PyProof.Rows.envOfC x (defScope st) s.heap.objs.size f cdv)) → Takes (cxB P w K mg base N x (defScope st) f cdv A outer s H E) (fun c d _ H => E c d H) → RSs D (fun c d _ H => E c d H) (cxB P w K mg base N x (defScope st) f cdv A outer s H E) (defBody st) body) :
    FnAtK P w K mg base D (k + 1) x ps shs (fnB n N.length body) := by
  obtain ⟨f, fd, h1, h2, h3⟩ := d.ex
  exact ⟨f, fd, h1, h2.kp, h3, fn_ok h2 S hn hN fun cdv A outer s H E hr => hb cdv A outer s H E hr (takes_of rfl rfl rfl rfl)⟩
theorem run_kw {k : Nat} {f : Addr} {fd : FuncData} {ps ks : List Str} {arr : List Src} {sp : Sp} {pins : List (Addr × Obj)} {σ : St} {s : Shared} {Q : VK} {us ws : List Value} {vs zs : List V} {dU : Nat → Value} {dV : Nat → V}
    (F : FnOk X.prog X.w X.K X.mg X.base (L2.CX X.prog X.w) k f fd ps sp) (hr : Room k X.A) (tk : Takes X W) (hd : ∀ j x, Src.df j x ∈ arr → RelV (dV j) (dU j)) (hb : BindsTo s fd ⟨us, ks.zip ws⟩ (ps.zip (arr.map (Src.uv dU (us ++ ws)))))
    (I : Inv X pins σ H s) (r : Vals vs us) (rz : Vals zs ws) (h : sp (arr.map (Src.sv dV (vs ++ zs))) H Q (WE W σ)) : wpAny (model X.prog X.w) X.A (call (.ref f) us (ks.zip ws)) (EP X pins σ Q) X.xe s := by
  refine wpAny_call (codeAny_mono (F.run X.A X.stack s H ⟨us, ks.zip ws⟩ _ _ Q (WE W σ) hr I.env0 hb (vals_arr (r.append rz) arr hd) h) fun res s' hq => ?_)
  cases res with
  | error er => exact passAt tk σ pins H s er s' I hq
  | ok fl =>
    cases fl with
    | ret u => exact I.after hq
    | _ => exact False.elim hq
/-- what a call with keywords asks -/
def tKw (n m : Nat) (W : WX) (R : List V → List V → Hp → VK → XK → Prop) (t tk : TA) : TE := fun σ H Q => t σ H fun vs H1 => tk σ H1 fun zs H2 => vs.length = n ∧ zs.length = m ∧ R vs zs H2 Q (WE W σ)
theorem pe_kw {k n : Nat} {f : Addr} {fd : FuncData} {ps ks : List Str} {arr : List Src} {sp : Sp} {x : Str} {ta tz : TA} {dU : Nat → Value} {dV : Nat → V} (F : FnOk X.prog X.w X.K X.mg X.base (L2.CX X.prog X.w) k f fd ps sp) (hr : Room k X.A) (tk : Takes X W)
    (hd : ∀ j x, Src.df j x ∈ arr → RelV (dV j) (dU j)) (hb : ∀ (s : Shared) (us ws : List Value), X.K.In s.heap → us.length = n → ws.length = ks.length → BindsTo s fd ⟨us, ks.zip ws⟩ (ps.zip (arr.map (Src.uv dU (us ++ ws)))))
    (hg : Gl X x) (hm : X.mg x = some (.ref f)) (hk : PySem.W.keepIn X.K (.ref f) = true) (ha : PA X (e :: es) ta) (hz : PK X kws tz)
    (hall : (backToKw pos (keywordEach kws X.env)).all (·.1.isSome) = true) (hks : (backToKw pos (keywordEach kws X.env)).filterMap (·.1) = ks) (hdb : (x == ("__debug__" : Str)) = false)
    (he : starEach (e :: es) X.env = (false, eval e X.env) :: starEach es X.env) (hpl : ((backTo pos (starEach (e :: es) X.env)).any (·.1) || (backToKw pos (keywordEach kws X.env)).any (·.1.isNone)) = false) :
    PE X (.Call (.Name x p) (e :: es) kws pos) (tKw n ks.length W (fun vs zs H Q E => sp (arr.map (Src.sv dV (vs ++ zs))) H Q E) ta tz) := ⟨fun pins s σ H Q I h => by
  refine wpAny_Call_Name_kw (ld_glob I hg hm (PySem.W.callWith_KW (h₀ := X.base) I.ok.mod.kin hk hall (thn (ha.run pos pins s σ H _ I h) fun us s1 hy => ?_) hpl he) hdb)
  obtain ⟨vs, H1, I1, r, q⟩ := hy
  refine thn (hz.run pos pins s1 σ H1 _ I1 q) fun ws s2 hy => ?_
  obtain ⟨zs, H2, I2, rz, l1, l2, q2⟩ := hy
  refine ⟨I2.kIn, ?_⟩
  rw [hks]
  exact run_kw F hr tk hd (hb s2 us ws I2.kIn (r.length.symm.trans l1) (rz.length.symm.trans l2)) I2 r rz q2⟩
theorem re_callK {k : Nat} {x : Str} {ps : List Str} {shs : List Sh} {fm : FM} {sh : Sh} (F : FnAtK X.prog X.w X.K X.mg X.base D k x ps shs fm) (hs : sh ∈ shs) (hr : Room k X.A) (tk : Takes X W) (ha : RA D W X (e :: es) ms) (hz : RK D W X kws mk) (hg : Gl X x := by rfl)
    (hall : (backToKw pos (keywordEach kws X.env)).all (·.1.isSome) = true := by rfl) (hks : (backToKw pos (keywordEach kws X.env)).filterMap (·.1) = sh.ks := by rfl) (hdb : (x == ("__debug__" : Str)) = false := by decide)
    (he : starEach (e :: es) X.env = (false, eval e X.env) :: starEach es X.env := by rfl) (hpl : ((backTo pos (starEach (e :: es) X.env)).any (·.1) || (backToKw pos (keywordEach kws X.env)).any (·.1.isNone)) = false := by rfl) :
    RE D W X (.Call (.Name x p) (e :: es) kws pos) (callE fm (argsK sh.n sh.ks.length sh.arr ms mk)) := by
  obtain ⟨f, fd, h1, h2, h3, h4⟩ := F.ex
  obtain ⟨dU, dV, hd, hb⟩ := (h3 sh hs).ex
  exact (pe_kw h4 hr tk (fun j x m => (hd j x m).1) hb hg h1 h2 ha hz hall hks hdb he hpl).imp fun σ H Q h => argsK_le (fun j x m => (hd j x m).2) σ H _ (callE_le σ H Q h)
theorem rn_callK {k : Nat} {x : Str} {ps : List Str} {shs : List Sh} {fm : FM} {sh : Sh} (F : FnAtK X.prog X.w X.K X.mg X.base D k x ps shs fm) (hs : sh ∈ shs) (hr : Room k X.A) (tk : Takes X W) (ha : RA D W X (e :: es) ms) (hz : RK D W X kws mk) (hg : Gl X x := by rfl)
    (hall : (backToKw pos (keywordEach kws X.env)).all (·.1.isSome) = true := by rfl) (hks : (backToKw pos (keywordEach kws X.env)).filterMap (·.1) = sh.ks := by rfl) (hdb : (x == ("__debug__" : Str)) = false := by decide)
    (he : starEach (e :: es) X.env = (false, eval e X.env) :: starEach es X.env := by rfl) (hpl : ((backTo pos (starEach (e :: es) X.env)).any (·.1) || (backToKw pos (keywordEach kws X.env)).any (·.1.isNone)) = false := by rfl) :
    RN D W X (.Call (.Name x p) (e :: es) kws pos) (callO fm (argsK sh.n sh.ks.length sh.arr ms mk)) := by
  obtain ⟨f, fd, h1, h2, h3, h4⟩ := F.ex
  obtain ⟨dU, dV, hd, hb⟩ := (h3 sh hs).ex
  exact (pe_kw h4 hr tk (fun j x m => (hd j x m).1) hb hg h1 h2 ha hz hall hks hdb he hpl).imp fun σ H Q h => argsK_le (fun j x m => (hd j x m).2) σ H _ (callO_le σ H Q h)
/-! evaluation -/
def kK2 (n m : Nat) (arr : List Src) (as : List AV) : List AV → Ev → Out (List AV) := fun bs ρ => if as.length = n ∧ bs.length = m then .ok (arr.map (Src.av (as ++ bs))) ρ else .stuck
def kK1 (n m : Nat) (arr : List Src) (mk : EM (List AV)) : List AV → Ev → Out (List AV) := fun as ρ => (mk ρ).bind (kK2 n m arr as)
@[simp] theorem kK2_ (n m : Nat) (arr : List Src) (as bs : List AV) (ρ : Ev) : kK2 n m arr as bs ρ = if as.length = n ∧ bs.length = m then .ok (arr.map (Src.av (as ++ bs))) ρ else .stuck := (rfl)
@[simp] theorem kK1_ (n m : Nat) (arr : List Src) (mk : EM (List AV)) (as : List AV) (ρ : Ev) : kK1 n m arr mk as ρ = (mk ρ).bind (kK2 n m arr as) := (rfl)
@[simp] theorem ev_argsK (n m : Nat) (arr : List Src) (ms mk : EM (List AV)) (ρ : Ev) : argsK n m arr ms mk ρ = (ms ρ).bind (kK1 n m arr mk) := (rfl)
@[simp] theorem src_at (as : List AV) (i : Nat) : Src.av as (.at i) = as.getD i (.v .non) := (rfl)
@[simp] theorem src_df (as : List AV) (i : Nat) (x : PV) : Src.av as (.df i x) = .v x := (rfl)
end
end TR

set_option Elab.async false
set_option linter.all false
set_option maxRecDepth 100000
/-! TRZD: own exceptions over Exception: made, raised, caught. -/
namespace TR
open PySem PySem.Spec L2
set_option autoImplicit false
abbrev eTail : List Value := [.type "Exception", .type "BaseException", .type "object"]
/-- what the written part says of such a class -/
structure XcC (K : PySem.W.Frag) (C : Addr) : Prop where
  init : PySem.W.excInitIn K C eTail "Exception.__new__" = true
  over : PySem.W.excOver K C eTail = true
  hd : PySem.W.hasDictIn K C = true
  sa : PySem.W.findIn K (.ref C) "__setattr__" = some (some (.builtin "object.__setattr__"))
  exC : PySem.W.subIn K (.ref C) (.type "BaseException") = some true
  tyC : PySem.W.typeIn K (.ref C) = some (.type "type")
  kC : PySem.W.keepIn K (.ref C) = true
section
open Builtin Builtin.ObjectAttr
variable {prog : Program} {w : World} {A : Around} {R : Result → Shared → Prop} {hp : Heap} {g : Array GenState} {d : Drawn} {t : Nat} {os : OsState} {K : PySem.W.Frag} {name : Str} {tk : Tok} {v : Value} {x C dx : Addr} {fv : Array Value}
theorem taker_none (h : PySem.W.findIn K (.ref C) name = some none) : PySem.W.takerIn K C name = some none := by
  unfold PySem.W.takerIn
  rw [h]
  rfl
/-- the first field -/
theorem xs_new (X : K.In hp) (T : XcC K C) (hx : hp.get? x = some { cls := .ref C, data := .fields fv }) (ha : PySem.W.findIn K (.ref C) name = some none)
    (hq : ∀ h' tk' dx, (∀ b o, b ≠ x → hp.get? b = some o → h'.get? b = some o) → hp.objs.size ≤ dx → dx ≠ x → h'.get? x = some { cls := .ref C, dict := some dx, data := .fields fv } → h'.Ns1 dx (fun y => if y = name then some v else none) → R (.ok (.ret .none)) ⟨h', g, d, tk', os⟩) :
    codeAny (model prog w) A (.call (.builtin "object.__setattr__") ⟨[.ref x, .str name tk, v], []⟩) R ⟨hp, g, d, t, os⟩ := by
  obtain ⟨cd, hcd, hh⟩ := PySem.W.any_some T.hd
  have xs : x ≠ hp.objs.size := Nat.ne_of_lt (Heap.lt_size hx)
  have hcls : PySem.W.Looks (model prog w) hp (classData C) cd := PySem.W.looks_clsIn X hcd
  refine PySem.W.osa_openX F.store_Exception X (ox := { cls := .ref C, data := .fields fv }) (od := none) ⟨hx, rfl, rfl, trivial⟩ T.over (taker_none ha) fun b => ?_
  dsimp only
  obtain ⟨nm, bs, mro, ns, qn, hd', sn, sb, ab, col, del⟩ := cd
  dsimp only at hh
  subst hh
  unfold storeInOwnDict ownDictForStores
  repeat (first | with_reducible refine PySem.HandSPX.store_in_new ?_ ?_ | with_reducible refine wpAny_loadPart_at hx ?_ | with_reducible refine hcls.at ?_ | wp_step)
  · exact ⟨_, #[], _, (Heap.get?_update_ne _ _ _ _ xs.symm).trans (Heap.get?_push_at rfl rfl), rfl, fun e he => absurd he (by simp), fun _ => rfl⟩
  · intro h' tk' n1 same
    have at1 : (hp.push { cls := .type "dict", data := .dict #[] }).get? x = some { cls := .ref C, data := .fields fv } := Heap.get?_push_of_some _ hx
    refine hq h' tk' hp.objs.size (fun b o hb ho => ?_) (Nat.le_refl _) xs.symm ((same.2 x xs).trans (Heap.get?_update_self _ at1 rfl)) n1
    exact ((same.2 b (Nat.ne_of_lt (Heap.lt_size ho))).trans (Heap.get?_update_ne _ _ _ _ hb)).trans (Heap.get?_push_of_some _ ho)
/-- a further field -/
theorem xs_old {m0 : Str → Option Value} {nl : List Str} (X : K.In hp) (T : XcC K C) (hx : hp.get? x = some { cls := .ref C, dict := some dx, data := .fields fv }) (hns : hp.Ns1 dx m0) (hw : Within m0 nl) (hz : nl.length ≤ 1000) (ha : PySem.W.findIn K (.ref C) name = some none)
    (hq : ∀ h' tk', (∀ b o, b ≠ dx → hp.get? b = some o → h'.get? b = some o) → h'.Ns1 dx (fun y => if y = name then some v else m0 y) → R (.ok (.ret .none)) ⟨h', g, d, tk', os⟩) :
    codeAny (model prog w) A (.call (.builtin "object.__setattr__") ⟨[.ref x, .str name tk, v], []⟩) R ⟨hp, g, d, t, os⟩ := by
  obtain ⟨cd, hcd, hh⟩ := PySem.W.any_some T.hd
  obtain ⟨oD, _, _, hoD, _, _⟩ := hns.count hw
  have hcls : PySem.W.Looks (model prog w) hp (classData C) cd := PySem.W.looks_clsIn X hcd
  refine PySem.W.osa_openX F.store_Exception X (ox := { cls := .ref C, dict := some dx, data := .fields fv }) (od := some oD) ⟨hx, rfl, rfl, hoD⟩ T.over (taker_none ha) fun b => ?_
  dsimp only
  obtain ⟨nm, bs, mro, ns, qn, hd', sn, sb, ab, col, del⟩ := cd
  dsimp only at hh
  subst hh
  unfold storeInOwnDict ownDictForStores
  repeat (first | with_reducible refine PySem.OEX.store_in_old hns hw hz ?_ | with_reducible refine wpAny_loadPart_at hx ?_ | with_reducible refine hcls.at ?_ | wp_step)
  intro h' tk' n1 same
  exact hq h' tk' (fun b o hb ho => (same.2 b hb).trans ho) n1
end
section
variable {X : Cx} {pins : List (Addr × Obj)} {σ : St} {H : Hp} {s : Shared} {a C dx : Addr} {f : Str} {y : V} {u : Value} {fs : List (Str × V)} {Q : Unit → Shared → Prop} {E : Value → Shared → Prop} {A : Around}
theorem xt_new (T : XcC X.K C) (I : Inv X pins σ H s) (e : H a = some (exo a C none)) (hno : PySem.W.findIn X.K (.ref C) f = some none) (ry : RelV y u)
    (h : ∀ dx s', H dx = none → dx ≠ a → Inv X pins σ (upd (upd H dx (exd dx [(f, y)])) a (exo a C (some dx))) s' → Q () s') : wpAny (model X.prog X.w) A (setAttr (.ref a) f u) Q E s := by
  obtain ⟨t1, ho⟩ := exo_at I.hok e
  obtain ⟨hp, g, d, t, os⟩ := s
  refine PySem.W.set_plain I.kIn (ox := { cls := .ref C, dict := none, data := .fields #[.ref t1, .none, .none, .none, .bool false, .none] }) (od := none) ⟨ho, rfl, rfl, trivial⟩ T.sa (xs_new I.kIn T ho hno fun h' tk' dx k dn dne hx hn => ?_)
  have free : H dx = none := I.hok.fresh dn
  have nd : ∀ {b : Addr} {o : Obj}, hp.get? b = some o → b ≠ dx := fun q => Nat.ne_of_lt (Nat.lt_of_lt_of_le (Heap.lt_size q) dn)
  have na : ∀ {b : Addr}, H b = none → b ≠ a := fun n z => by
    rw [z, e] at n
    cases n
  have U : Un X.fs [] H (upd (upd H dx (exd dx [(f, y)])) a (exo a C (some dx))) hp h' :=
    ⟨fun b o q n _ _ => k b o (na n) q, fun b o q n _ _ => ⟨o.slots, k b o (na n) q⟩, fun b o q n _ => by rw [upd_ne (na n), upd_ne (nd q), n],
      fun b o q _ => if hb : b = a then ⟨_, hb ▸ hx⟩ else ⟨o, k b o hb q⟩, fun b xs q => by rw [upd_ne (at_ne e q exo_tup), upd_ne (ne_of_none q free), q], fun b o v q => by rw [upd_ne (at_ne e q exo_frz), upd_ne (ne_of_none q free), q],
      fun b ps q => ⟨#[], by rw [upd_ne (at_ne e q exo_tbl), upd_ne (ne_of_none q free), q, Array.append_empty]⟩⟩
  refine h dx _ free dne (I.un (t' := tk') U fun b o q => ?_)
  by_cases hb : b = a
  · subst hb
    rw [upd_same] at q
    cases q
    exact exo_ok hx
  by_cases hd : b = dx
  · subst hd
    rw [upd_ne hb, upd_same] at q
    cases q
    exact exd_ok hn (relO_put (fs := []) ry fun g => True.intro)
  rw [upd_ne hb, upd_ne hd] at q
  have own : ∀ {c : Addr}, H c = some (.own b) → c ≠ a := fun hc => at_ne e hc exo_own
  exact (I.hok b o q).stay (fun c v hc z => k c v (hc.elim (fun hc => hc ▸ hb) own) z) (fun c hc => by rw [upd_ne (own hc), upd_ne (ne_of_none hc free), hc]) fun c xs hc => by rw [upd_ne (at_ne e hc exo_tup), upd_ne (ne_of_none hc free), hc]
theorem xt_old (T : XcC X.K C) (I : Inv X pins σ H s) (e : H a = some (exo a C (some dx))) (ed : H dx = some (exd dx fs)) (hl : fs.length ≤ 900) (hno : PySem.W.findIn X.K (.ref C) f = some none) (ry : RelV y u)
    (h : ∀ s', Inv X pins σ (upd H dx (exd dx ((f, y) :: fs))) s' → Q () s') : wpAny (model X.prog X.w) A (setAttr (.ref a) f u) Q E s := by
  obtain ⟨t1, ho⟩ := exo_at I.hok e
  obtain ⟨mA, hns, rel⟩ := exd_at I.hok ed
  obtain ⟨oD, _, _, hoD, _, _⟩ := hns.count (within_of rel)
  obtain ⟨hp, g, d, t, os⟩ := s
  refine PySem.W.set_plain I.kIn (ox := { cls := .ref C, dict := some dx, data := .fields #[.ref t1, .none, .none, .none, .bool false, .none] }) (od := some oD) ⟨ho, rfl, rfl, hoD⟩ T.sa
    (xs_old I.kIn T ho hns (within_of rel) (by rw [List.length_map]; omega) hno fun h' tk' k hn => h _ (I.write (t' := tk') (x := dx) (e := dx) (o := exd dx ((f, y) :: fs)) (by rw [ed]; trivial) (.inl rfl) k ?_ (exd_ok hn (relO_put ry rel))))
  obtain ⟨o, _, _, z, _⟩ := hn
  exact ⟨o, z⟩
end
/-- self.f = e, self an exception that is being made -/
def tXt (K : PySem.W.Frag) (f : Str) (to te : TE) : TS := fun D σ H => te σ H fun y H1 => to σ H1 fun x H2 => ∃ a C : Addr, x = .ref a ∧ XcC K C ∧ PySem.W.findIn K (.ref C) f = some none ∧
  ((H2 a = some (exo a C none) ∧ ∀ dx, H2 dx = none → dx ≠ a → D.nx σ (upd (upd H2 dx (exd dx [(f, y)])) a (exo a C (some dx)))) ∨
    ∃ (dx : Addr) (fs : List (Str × V)), H2 a = some (exo a C (some dx)) ∧ H2 dx = some (exd dx fs) ∧ fs.length ≤ 900 ∧ D.nx σ (upd H2 dx (exd dx ((f, y) :: fs))))
section
variable {X : Cx} {o e : Expr} {to te : TE} {f : Str} {p' pos : Pos}
theorem ps_xt (ho : PE X o to) (he : PE X e te) (hs : swapsWith e (some (.Attribute o f p')) pos.line X.env = pure false := by rfl) : PS X (.Assign [.Attribute o f p'] e pos) (tXt X.K f to te) := ⟨fun pins s σ H D I h => by
  refine plainObj_wpAny_Assign_Attribute (thn (he.run pins s σ H _ I h) fun v s1 hy => ?_) hs
  obtain ⟨y, H1, I1, r1, q1⟩ := hy
  refine thn (ho.run pins s1 σ H1 _ I1 q1) fun u s2 hy => ?_
  obtain ⟨x, H2, I2, r2, a, C, ex, T, hno, q⟩ := hy
  subst ex
  cases r2
  rcases q with ⟨ea, q⟩ | ⟨dx, fs, ea, ed, hl, q⟩
  · exact xt_new T I2 ea hno r1 fun dx s' n ne J => ⟨σ, _, J, q dx n ne⟩
  · exact xt_old T I2 ea ed hl hno r1 fun s' J => ⟨σ, _, J, q⟩⟩
end
/-- the promise of such an __init__: each parameter is stored under its name -/
def spXi (K : PySem.W.Frag) (fs : List Str) : Sp := fun vs H Q _ => ∃ (a C : Addr) (ws : List V), vs = .ref a :: ws ∧ ws.length = fs.length ∧ XcC K C ∧ (∀ f ∈ fs, PySem.W.findIn K (.ref C) f = some none) ∧ H a = some (exo a C none) ∧
  ∀ dx, H dx = none → dx ≠ a → Q .non (upd (upd H dx (exd dx (fs.zip ws).reverse)) a (exo a C (some dx)))
section
variable {P : Program} {w : World} {K : PySem.W.Frag} {mg : Str → Option Value} {base : Heap}
theorem upd_twice {H : Hp} {a : Addr} {o u : HO} : upd (upd H a o) a u = upd H a u := by
  funext b
  by_cases h : b = a
  · rw [h, upd_same, upd_same]
  · rw [upd_ne h, upd_ne h, upd_ne h]
theorem upd_swap {H : Hp} {a b : Addr} {o u : HO} (h : a ≠ b) : upd (upd H a o) b u = upd (upd H b u) a o := by
  funext c
  by_cases h1 : c = a
  · subst h1; rw [upd_ne h, upd_same, upd_same]
  · by_cases h2 : c = b
    · subst h2; rw [upd_same, upd_ne h1, upd_same]
    · rw [upd_ne h2, upd_ne h1, upd_ne h1, upd_ne h2]
theorem xi_1 {qual f1 p0 p1 : Str} {st : Stmt} {f : Addr} {fd : FuncData} {k : Nat} (F : Fun K "__init__" qual st f fd) (S : FnScope [p0, p1] [p0, p1] (defScope st))
    (hw : ∀ (cdv : Value) (A : Around) (outer : List Env) (s : Shared) (H : Hp) (E : XK), PSs (cxB P w K mg base [p0, p1] qual (defScope st) f cdv A outer s H E) (defBody st) (tXt K f1 (tVar 0) (tVar 1))) :
    FnOk P w K mg base (L2.CX P w) (k + 1) f fd [p0, p1] (spXi K [f1]) :=
  F.okX S (fun vs H Q E h => by
    obtain ⟨a, C, ws, rfl, hl, _⟩ := h
    simp [hl]) fun cdv A outer s H vs Q E hr h => by
    obtain ⟨a, C, ws, rfl, hl, T, hn, ea, q⟩ := h
    obtain ⟨v1, rfl⟩ : ∃ v1, ws = [v1] := List.length_eq_one_iff.mp hl
    exact ⟨_, hw cdv A outer s H E, ⟨v1, rfl, .ref a, rfl, a, C, rfl, T, hn f1 (by simp), .inl ⟨ea, fun dx n ne => q dx n ne⟩⟩⟩
theorem xi_2 {qual f1 f2 p0 p1 p2 : Str} {st : Stmt} {f : Addr} {fd : FuncData} {k : Nat} (F : Fun K "__init__" qual st f fd) (S : FnScope [p0, p1, p2] [p0, p1, p2] (defScope st))
    (hw : ∀ (cdv : Value) (A : Around) (outer : List Env) (s : Shared) (H : Hp) (E : XK), PSs (cxB P w K mg base [p0, p1, p2] qual (defScope st) f cdv A outer s H E) (defBody st) (tSeq (tXt K f1 (tVar 0) (tVar 1)) (tXt K f2 (tVar 0) (tVar 2)))) :
    FnOk P w K mg base (L2.CX P w) (k + 1) f fd [p0, p1, p2] (spXi K [f1, f2]) :=
  F.okX S (fun vs H Q E h => by
    obtain ⟨a, C, ws, rfl, hl, _⟩ := h
    simp [hl]) fun cdv A outer s H vs Q E hr h => by
    obtain ⟨a, C, ws, rfl, hl, T, hn, ea, q⟩ := h
    obtain ⟨v1, v2, rfl⟩ : ∃ v1 v2, ws = [v1, v2] := by
      match ws, hl with
      | [v1, v2], _ => exact ⟨v1, v2, rfl⟩
    refine ⟨_, hw cdv A outer s H E, ⟨v1, rfl, .ref a, rfl, a, C, rfl, T, hn f1 (by simp), .inl ⟨ea, fun dx n ne => ?_⟩⟩⟩
    refine ⟨v2, rfl, .ref a, rfl, a, C, rfl, T, hn f2 (by simp), .inr ⟨dx, [(f1, v1)], upd_same, ?_, by simp, ?_⟩⟩
    · rw [upd_ne ne, upd_same]
    · have e : upd (upd (upd H dx (exd dx [(f1, v1)])) a (exo a C (some dx))) dx (exd dx [(f2, v2), (f1, v1)]) = upd (upd H dx (exd dx [(f2, v2), (f1, v1)])) a (exo a C (some dx)) := by
        rw [upd_swap (Ne.symm ne), upd_twice]
      rw [e]
      exact q dx n ne
end
/-- the own exception of that name and number, with those fields -/
structure XcAt (P : Program) (w : World) (K : PySem.W.Frag) (mg : Str → Option Value) (base : Heap) (D : Wd) (k c : Nat) (x : Str) (fs : List Str) : Prop where
  ex : ∃ (C fI : Addr) (fd : FuncData) (ps : List Str), mg x = some (.ref C) ∧ D.E c C ∧ XcC K C ∧ (∀ f ∈ fs, PySem.W.findIn K (.ref C) f = some none) ∧ PySem.W.findIn K (.ref C) "__init__" = some (some (.ref fI)) ∧ PySem.W.typeIn K (.ref fI) = some (.type "function") ∧ Binds K fd ps [] ∧
    FnOk P w K mg base (L2.CX P w) k fI fd ps (spXi K fs)
theorem XcAt.mono {P : Program} {w : World} {K : PySem.W.Frag} {mg : Str → Option Value} {base : Heap} {D : Wd} {j k c : Nat} {x : Str} {fs : List Str} (h : XcAt P w K mg base D j c x fs) (l : j ≤ k) : XcAt P w K mg base D k c x fs := by
  obtain ⟨C, fI, fd, ps, h1, h2, h3, h4, h5, h6, h7, h8⟩ := h.ex
  exact ⟨C, fI, fd, ps, h1, h2, h3, h4, h5, h6, h7, h8.mono l⟩
/-- the same, as its text stands -/
structure DefXc (K : PySem.W.Frag) (mg : Str → Option Value) (D : Wd) (c : Nat) (x qual : Str) (st : Stmt) (ps fs : List Str) : Prop where
  ex : ∃ (C fI : Addr) (fd : FuncData), mg x = some (.ref C) ∧ D.E c C ∧ XcC K C ∧ (∀ f ∈ fs, PySem.W.findIn K (.ref C) f = some none) ∧ PySem.W.findIn K (.ref C) "__init__" = some (some (.ref fI)) ∧ PySem.W.typeIn K (.ref fI) = some (.type "function") ∧ Fun K "__init__" qual st fI fd ∧ Binds K fd ps []
theorem xc_1 {P : Program} {w : World} {K : PySem.W.Frag} {mg : Str → Option Value} {base : Heap} {D : Wd} {c : Nat} {x qual f1 p0 p1 : Str} {st : Stmt} (d : DefXc K mg D c x qual st [p0, p1] [f1]) (S : FnScope [p0, p1] [p0, p1] (defScope st))
    (hw : ∀ {f : Addr} (cdv : Value) (A : Around) (outer : List Env) (s : Shared) (H : Hp) (E : XK), PSs (cxB P w K mg base [p0, p1] qual (defScope st) f cdv A outer s H E) (defBody st) (tXt K f1 (tVar 0) (tVar 1))) : XcAt P w K mg base D 1 c x [f1] := by
  obtain ⟨C, fI, fd, h1, h2, h3, h4, h5, h6, h7, h8⟩ := d.ex
  exact ⟨C, fI, fd, _, h1, h2, h3, h4, h5, h6, h8, xi_1 h7 S hw⟩
theorem xc_2 {P : Program} {w : World} {K : PySem.W.Frag} {mg : Str → Option Value} {base : Heap} {D : Wd} {c : Nat} {x qual f1 f2 p0 p1 p2 : Str} {st : Stmt} (d : DefXc K mg D c x qual st [p0, p1, p2] [f1, f2]) (S : FnScope [p0, p1, p2] [p0, p1, p2] (defScope st))
    (hw : ∀ {f : Addr} (cdv : Value) (A : Around) (outer : List Env) (s : Shared) (H : Hp) (E : XK), PSs (cxB P w K mg base [p0, p1, p2] qual (defScope st) f cdv A outer s H E) (defBody st) (tSeq (tXt K f1 (tVar 0) (tVar 1)) (tXt K f2 (tVar 0) (tVar 2)))) : XcAt P w K mg base D 1 c x [f1, f2] := by
  obtain ⟨C, fI, fd, h1, h2, h3, h4, h5, h6, h7, h8⟩ := d.ex
  exact ⟨C, fI, fd, _, h1, h2, h3, h4, h5, h6, h8, xi_2 h7 S hw⟩
/-- what making asks -/
def tMkX (C : Addr) (fs : List Str) (ta : TA) : St → Hp → XK → Prop := fun σ H Q => ta σ H fun vs H1 => vs.length = fs.length ∧ ∀ d, H1 d = none → Q (.ref C) (some d) (upd H1 d (.xd (fs.zip vs).reverse))
section
variable {D : Wd} {W : WX} {X : Cx} {e o : Expr} {es : List Expr} {pos p p2 : Pos} {ta : TA} {G G' H H' : Hp} {ms : EM (List AV)}
theorem pmk_x {k : Nat} {C fI : Addr} {fd : FuncData} {ps : List Str} {x : Str} {fs : List Str} (hm : X.mg x = some (.ref C)) (T : XcC X.K C) (hn : ∀ f ∈ fs, PySem.W.findIn X.K (.ref C) f = some none) (iC : PySem.W.findIn X.K (.ref C) "__init__" = some (some (.ref fI))) (tI : PySem.W.typeIn X.K (.ref fI) = some (.type "function"))
    (hb : Binds X.K fd ps []) (F1 : FnOk X.prog X.w X.K X.mg X.base (L2.CX X.prog X.w) k fI fd ps (spXi X.K fs)) (hfs : fs.length ≤ 900) (hr : Room (k + 1) X.A) (hg : Gl X x) (ha : PA X (e :: es) ta) (hdb : (x == ("__debug__" : Str)) = false)
    (he : starEach (e :: es) X.env = (false, eval e X.env) :: starEach es X.env) (hpl : (backTo pos (starEach es X.env)).any (·.1) = false) : PMk X (.Call (.Name x p) (e :: es) [] pos) (tMkX C fs ta) := by
  intro pins s σ H Q I h
  obtain ⟨nm, N, q, bs, bm, hdct, sn, sub, ab, col, dd, k0, k1, k2, k3, k5, hC, hT⟩ := PySem.W.excInit_of I.kIn T.init
  refine wpAny_Call_Name_kw (ld_glob I hg hm (PySem.W.callWith_K (h₀ := X.base) I.ok.mod.kin T.kC (thn (ha.run pos pins s σ H _ I h) fun us s1 hy => ?_) he hpl) hdb)
  obtain ⟨vs, H1, I1, r1, hz, q1⟩ := hy
  refine ⟨I1.kIn, ?_⟩
  clear hC hT
  obtain ⟨nm, N, q, bs, bm, hdct, sn, sub, ab, col, dd, k0, k1, k2, k3, k5, hC, hT⟩ := PySem.W.excInit_of I1.kIn T.init
  show wpAny _ _ (call (.ref C) us) _ _ _
  obtain ⟨hp, g, dr, tk, os⟩ := s1
  have lt : hp.objs.size ≤ hp.objs.size + 1 := Nat.le_succ _
  have free : H1 (hp.objs.size + 1) = none := I1.hok.fresh lt
  have old : ∀ b o, hp.get? b = some o → ((hp.push (PySem.W.kdv_tup us)).push (PySem.HandSPX.excO C hp.objs.size)).get? b = some o := fun b o z => Heap.get?_push_of_some _ (Heap.get?_push_of_some _ z)
  have hget : ((hp.push (PySem.W.kdv_tup us)).push (PySem.HandSPX.excO C hp.objs.size)).get? (hp.objs.size + 1) = some (PySem.HandSPX.excO C hp.objs.size) := by heap_get
  have I2 : Inv X pins σ (upd H1 (hp.objs.size + 1) (exo (hp.objs.size + 1) C none)) ⟨(hp.push (PySem.W.kdv_tup us)).push (PySem.HandSPX.excO C hp.objs.size), g, dr, tk, os⟩ := I1.laid (t' := tk) old lt (exo_ok hget)
  have sp : spXi X.K fs (V.ref (hp.objs.size + 1) :: vs) (upd H1 (hp.objs.size + 1) (exo (hp.objs.size + 1) C none)) (fun v H2 => v = .non ∧ ∃ d : Addr, H2 (hp.objs.size + 1) = some (exo (hp.objs.size + 1) C (some d)) ∧ H2 d = some (exd d (fs.zip vs).reverse) ∧ H1 d = none ∧ Q (.ref C) (some d) (upd (L2.del H2 (hp.objs.size + 1)) d (.xd (fs.zip vs).reverse))) (fun _ _ _ => False) := by
    refine ⟨_, C, vs, rfl, hz, T, hn, upd_same, fun dx n ne => ⟨rfl, dx, upd_same, ?_, ?_, ?_⟩⟩
    · rw [upd_ne ne, upd_same]
    · rw [upd_ne ne] at n; exact n
    · have n1 : H1 dx = none := by rw [upd_ne ne] at n; exact n
      have eq : upd (L2.del (upd (upd (upd H1 (hp.objs.size + 1) (exo (hp.objs.size + 1) C none)) dx (exd dx (fs.zip vs).reverse)) (hp.objs.size + 1) (exo (hp.objs.size + 1) C (some dx))) (hp.objs.size + 1)) dx (.xd (fs.zip vs).reverse) = upd H1 dx (.xd (fs.zip vs).reverse) := by
        funext b
        by_cases h1 : b = dx
        · rw [h1, upd_same, upd_same]
        · rw [upd_ne h1, upd_ne h1]
          by_cases h2 : b = hp.objs.size + 1
          · rw [h2, L2.del_same, free]
          · rw [L2.del_ne h2, upd_ne h2, upd_ne h1, upd_ne h2]
      rw [eq]
      exact q1 dx n1
  have rv : Vals (V.ref (hp.objs.size + 1) :: vs) (Value.ref (hp.objs.size + 1) :: us) := .cons rfl r1
  have hl : (Value.ref (hp.objs.size + 1) :: us ++ []).length = ps.length := by
    rw [List.append_nil, ← rv.length]
    exact F1.len _ _ _ _ sp
  have bt := hb _ (Value.ref (hp.objs.size + 1) :: us) I2.kIn hl
  rw [List.append_nil] at bt
  have hus : us.length ≤ sizeLine := by
    rw [← Paired.length r1, hz, sizeLine_eq]
    omega
  refine wpAny_call (PySem.HandSPX.call_own F.excBase_Exception hT hC (PySem.W.looks_findIn I1.kIn iC) (fun self => PySem.W.bind_fn I1.kIn self tI) hus
    (codeAny_mono (F1.run _ X.stack _ _ ⟨Value.ref (hp.objs.size + 1) :: us, []⟩ _ _ _ (fun _ _ _ => False) (hr.make C us []) (I2.env0.make C us []) bt rv sp) fun r s' hq => ?_))
  cases r with
  | error er =>
    obtain ⟨_, _, _, _, _, _, _, _, _, _, _, _, z⟩ := hq
    exact z.elim
  | ok fl =>
    cases fl with
    | ret u =>
      obtain ⟨v, H2, os2, bare2, un2, hok2, rv2, ev, d, ea, ed, hd1, q2⟩ := hq
      subst ev
      obtain ⟨h2, g2, d2, t2, os'⟩ := s'
      exact ⟨rv2, mk_end (raises_own T.exC T.tyC) I1 lt old un2 hok2 os2 bare2 ea ed hd1 q2⟩
    | next => exact False.elim hq
    | brk => exact False.elim hq
    | cont => exact False.elim hq
theorem repf_app : ∀ {a b : List (Str × PV)} {va vb : List (Str × V)}, RepF D G a va → RepF D G b vb → RepF D G (a ++ b) (va ++ vb)
  | [], _, _, _, h, k => by rw [show _ = [] from h]; exact k
  | (f, x) :: a, b, _, vb, h, k => by
    obtain ⟨v, r, rfl, h1, h2⟩ := h
    exact ⟨v, r ++ vb, rfl, h1, repf_app h2 k⟩
theorem repf_rev : ∀ {a : List (Str × PV)} {va : List (Str × V)}, RepF D G a va → RepF D G a.reverse va.reverse
  | [], _, h => by rw [show _ = [] from h]; rfl
  | (f, x) :: a, _, h => by
    obtain ⟨v, r, rfl, h1, h2⟩ := h
    rw [List.reverse_cons, List.reverse_cons]
    exact repf_app (repf_rev h2) ⟨v, [], rfl, h1, rfl⟩
theorem repf_zip : ∀ {fs : List Str} {xs : List PV} {vs : List V}, Reps D G xs vs → RepF D G (fs.zip xs) (fs.zip vs)
  | [], _, _, _ => by simp [RepF]
  | f :: fs, [], _, h => by rw [show _ = [] from h]; simp [RepF]
  | f :: fs, x :: xs, _, h => by
    obtain ⟨v, r, rfl, h1, h2⟩ := h
    exact ⟨v, _, rfl, h1, repf_zip h2⟩
def raiseM (c : Nat) (fs : List Str) (ms : EM (List AV)) : SM := fun ρ => (ms ρ).to fun as ρ => match vals as with
  | some xs => if xs.length = fs.length then .exc ⟨c, (fs.zip xs).reverse⟩ ρ else .stuck
  | none => .stuck
theorem s_raise {k c : Nat} {x : Str} {fs : List Str} (F : XcAt X.prog X.w X.K X.mg X.base D k c x fs) (hfs : fs.length ≤ 900) (hr : Room (k + 1) X.A) (tk : Takes X W) (ha : RA D W X (e :: es) ms) (hc : X.calm = true := by rfl) (hg : Gl X x := by rfl) (hdb : (x == ("__debug__" : Str)) = false := by decide)
    (he : starEach (e :: es) X.env = (false, eval e X.env) :: starEach es X.env := by rfl) (hpl : (backTo pos (starEach es X.env)).any (·.1) = false := by rfl) : RS D W X (.Raise (some (.Call (.Name x p) (e :: es) [] pos)) none p2) (raiseM c fs ms) := by
  obtain ⟨C, fI, fd, ps, h1, h2, h3, h4, h5, h6, h7, h8⟩ := F.ex
  refine (ps_raise hc tk (pmk_x h1 h3 h4 h5 h6 h7 h8 hfs hr hg ha hdb he hpl)).imp fun E σ H ⟨G, ρ, A, k⟩ => ⟨G, ρ, A, (Ks.to k).mono fun as ρ1 G1 H1 n1 k1 vs rv => ?_⟩
  split at k1
  · rename_i xs ex
    split at k1
    · rename_i hl
      have rs := vals_rep rv ex
      refine ⟨rs.length.trans hl, fun d hd => ?_⟩
      have gr := Grow.new (o := .xd (fs.zip vs).reverse) n1.abs.le hd
      exact k1 _ _ σ _ _ (n1.abs.grow gr) ⟨C, d, _, rfl, h2, rfl, upd_same, (repf_rev (repf_zip rs)).mono gr.leg⟩
    · exact False.elim k1
  · exact False.elim k1
end
end TR

set_option Elab.async false
set_option linter.all false
set_option maxRecDepth 100000
/-! TRZE: try .. except of own exceptions. -/
namespace TR
open PySem PySem.Spec L2
set_option autoImplicit false
/-- the same world with that exception in hand -/
abbrev Wd.hold (D : Wd) (z : Option (Addr × Value × Option Addr)) : Wd := { D with xa := z }
mutual
theorem rep_hold {D : Wd} {G : Hp} {z : Option (Addr × Value × Option Addr)} : ∀ {x : PV} {v : V}, Rep D G x v ↔ Rep (D.hold z) G x v
  | .non, _ => Iff.rfl
  | .bl _, _ => Iff.rfl
  | .int _, _ => Iff.rfl
  | .str _, _ => Iff.rfl
  | .lst xs, _ => ⟨fun ⟨a, vs, e, q, r⟩ => ⟨a, vs, e, q, reps_hold.mp r⟩, fun ⟨a, vs, e, q, r⟩ => ⟨a, vs, e, q, reps_hold.mpr r⟩⟩
  | .tup xs, _ => ⟨fun ⟨a, vs, e, q, r⟩ => ⟨a, vs, e, q, reps_hold.mp r⟩, fun ⟨a, vs, e, q, r⟩ => ⟨a, vs, e, q, reps_hold.mpr r⟩⟩
  | .dct xs, _ => ⟨fun ⟨a, vs, e, q, r⟩ => ⟨a, vs, e, q, repd_hold.mp r⟩, fun ⟨a, vs, e, q, r⟩ => ⟨a, vs, e, q, repd_hold.mpr r⟩⟩
  | .obj c xs, _ => ⟨fun ⟨a, C, dx, ws, e, q, t, r⟩ => ⟨a, C, dx, ws, e, q, t, repf_hold.mp r⟩, fun ⟨a, C, dx, ws, e, q, t, r⟩ => ⟨a, C, dx, ws, e, q, t, repf_hold.mpr r⟩⟩
theorem reps_hold {D : Wd} {G : Hp} {z : Option (Addr × Value × Option Addr)} : ∀ {xs : List PV} {vs : List V}, Reps D G xs vs ↔ Reps (D.hold z) G xs vs
  | [], _ => Iff.rfl
  | x :: xs, _ => ⟨fun ⟨v, r, e, h1, h2⟩ => ⟨v, r, e, rep_hold.mp h1, reps_hold.mp h2⟩, fun ⟨v, r, e, h1, h2⟩ => ⟨v, r, e, rep_hold.mpr h1, reps_hold.mpr h2⟩⟩
theorem repd_hold {D : Wd} {G : Hp} {z : Option (Addr × Value × Option Addr)} : ∀ {xs : List (Key × PV)} {vs : List (Key × V)}, RepD D G xs vs ↔ RepD (D.hold z) G xs vs
  | [], _ => Iff.rfl
  | (k, x) :: xs, _ => ⟨fun ⟨v, r, e, h1, h2⟩ => ⟨v, r, e, rep_hold.mp h1, repd_hold.mp h2⟩, fun ⟨v, r, e, h1, h2⟩ => ⟨v, r, e, rep_hold.mpr h1, repd_hold.mpr h2⟩⟩
theorem repf_hold {D : Wd} {G : Hp} {z : Option (Addr × Value × Option Addr)} : ∀ {xs : List (Str × PV)} {vs : List (Str × V)}, RepF D G xs vs ↔ RepF (D.hold z) G xs vs
  | [], _ => Iff.rfl
  | (k, x) :: xs, _ => ⟨fun ⟨v, r, e, h1, h2⟩ => ⟨v, r, e, rep_hold.mp h1, repf_hold.mp h2⟩, fun ⟨v, r, e, h1, h2⟩ => ⟨v, r, e, rep_hold.mpr h1, repf_hold.mpr h2⟩⟩
end
section
variable {D : Wd} {W : WX} {X : Cx} {G G1 G2 H H1 H2 : Hp} {σ σ1 σ2 : St} {ρ ρ1 ρ2 : Ev} {z : Option (Addr × Value × Option Addr)}
theorem mrep_hold {a : Addr} {m : MO} : MRep D G H a m ↔ MRep (D.hold z) G H a m := by
  cases m with
  | lst xs => exact ⟨fun ⟨vs, e, r⟩ => ⟨vs, e, reps_hold.mp r⟩, fun ⟨vs, e, r⟩ => ⟨vs, e, reps_hold.mpr r⟩⟩
  | dct xs => exact ⟨fun ⟨vs, e, r⟩ => ⟨vs, e, repd_hold.mp r⟩, fun ⟨vs, e, r⟩ => ⟨vs, e, repd_hold.mpr r⟩⟩
  | obj c xs => exact ⟨fun ⟨C, dx, vs, e, t, r⟩ => ⟨C, dx, vs, e, t, repf_hold.mp r⟩, fun ⟨C, dx, vs, e, t, r⟩ => ⟨C, dx, vs, e, t, repf_hold.mpr r⟩⟩
theorem erep_hold {c : Value} {d : Option Addr} {e : Ex} : ERep D G c d e ↔ ERep (D.hold z) G c d e :=
  ⟨fun ⟨C, dx, ws, h1, h2, h3, h4, h5⟩ => ⟨C, dx, ws, h1, h2, h3, h4, repf_hold.mp h5⟩, fun ⟨C, dx, ws, h1, h2, h3, h4, h5⟩ => ⟨C, dx, ws, h1, h2, h3, h4, repf_hold.mpr h5⟩⟩
/-- no slot holds an exception -/
def noEx : Slot → Bool
  | .exn _ => false
  | _ => true
def clean (ρ : Ev) : Bool := ρ.all noEx
/-- a slot that is not an own object -/
def noOwn (ρ : Ev) (i : Nat) : Bool := match ρ[i]? with
  | some (.own _ _) => false
  | some (.exn _) => false
  | some _ => true
  | none => false
/-- into the suite -/
theorem abs_in {i a : Nat} {c : Value} {d : Option Addr} {e : Ex} (A : Abs D G H σ ρ) (hc : clean ρ = true) (hi : noOwn ρ i = true) (r : ERep D G c d e) :
    Abs (D.hold (some (a, c, d))) G H (σ.set i (some (.ref a))) (ρ.set i (.exn e)) := by
  have own : ∀ (j : Nat) (b : Bool) (m : MO), (ρ.set i (.exn e))[j]? = some (.own b m) → j ≠ i ∧ ρ[j]? = some (.own b m) := fun j b m h => by
    rcases get_set h with ⟨_, z, _⟩ | z
    · cases z
    · exact z
  have ne : ∀ {j : Nat}, j ≠ i → (σ.set i (some (.ref a)))[j]? = σ[j]? := fun h => List.getElem?_set_ne (Ne.symm h)
  refine ⟨A.le, by rw [List.length_set, List.length_set]; exact A.len, fun j s h => ?_, fun j k b m b' m' x h1 h2 h3 h4 => ?_⟩
  · rcases get_set h with ⟨rfl, rfl, hl⟩ | ⟨hj, h⟩
    · exact ⟨a, c, d, rfl, List.getElem?_set_self (by rw [A.len]; exact hl), erep_hold.mp r⟩
    · rw [ne hj]
      have q := A.sl j s h
      cases s with
      | non => trivial
      | val x => obtain ⟨v, e1, r1⟩ := q; exact ⟨v, e1, rep_hold.mp r1⟩
      | own b m => obtain ⟨x, e1, g1, r1⟩ := q; exact ⟨x, e1, g1, mrep_hold.mp r1⟩
      | exn x =>
        have := List.all_eq_true.mp hc _ (List.mem_of_getElem? h)
        cases this
  · obtain ⟨e1, f1⟩ := own j b m h1
    obtain ⟨e2, f2⟩ := own k b' m' h2
    rw [ne e1] at h3
    rw [ne e2] at h4
    exact A.inj j k b m b' m' x f1 f2 h3 h4
/-- out of the suite -/
theorem nx_out {i a : Nat} {c : Value} {d : Option Addr} {e : Ex} (A : Abs D G1 H1 σ1 ρ1) (hi : noOwn ρ1 i = true) (hc : clean (ρ2.set i .non) = true)
    (n : Nx (D.hold (some (a, c, d))) G1 H1 (σ1.set i (some (.ref a))) (ρ1.set i (.exn e)) G2 H2 σ2 ρ2) : Nx D G1 H1 σ1 ρ1 G2 H2 (σ2.set i none) (ρ2.set i .non) := by
  have own2 : ∀ {j : Nat} {b : Bool} {m : MO}, (ρ2.set i .non)[j]? = some (.own b m) → j ≠ i ∧ ρ2[j]? = some (.own b m) := fun {j b m} h => by
    rcases get_set h with ⟨_, z, _⟩ | z
    · cases z
    · exact z
  have own1 : ∀ {j : Nat} {b : Bool} {m : MO}, (ρ1.set i (.exn e))[j]? = some (.own b m) → j ≠ i ∧ ρ1[j]? = some (.own b m) := fun {j b m} h => by
    rcases get_set h with ⟨_, z, _⟩ | z
    · cases z
    · exact z
  have ni : ∀ {j : Nat} {b : Bool} {m : MO}, ρ1[j]? = some (.own b m) → j ≠ i := fun {j b m} h z => by
    subst z
    unfold noOwn at hi
    rw [h] at hi
    cases hi
  have ne2 : ∀ {j : Nat}, j ≠ i → (σ2.set i none)[j]? = σ2[j]? := fun h => List.getElem?_set_ne (Ne.symm h)
  have ne1 : ∀ {j : Nat}, j ≠ i → (σ1.set i (some (V.ref a)))[j]? = σ1[j]? := fun h => List.getElem?_set_ne (Ne.symm h)
  have neρ : ∀ {j : Nat} {s : Slot}, j ≠ i → (ρ1.set i s)[j]? = ρ1[j]? := fun h => List.getElem?_set_ne (Ne.symm h)
  have ow1 : ∀ {b : Addr}, Ow (σ1.set i (some (.ref a))) (ρ1.set i (.exn e)) b → Ow σ1 ρ1 b := fun {b} ⟨j, f, m, h1, h2⟩ => by
    obtain ⟨hj, h1⟩ := own1 h1
    rw [ne1 hj] at h2
    exact ⟨j, f, m, h1, h2⟩
  have owF1 : ∀ {b : Addr}, OwF (σ1.set i (some (.ref a))) (ρ1.set i (.exn e)) b → OwF σ1 ρ1 b := fun {b} ⟨j, m, h1, h2⟩ => by
    obtain ⟨hj, h1⟩ := own1 h1
    rw [ne1 hj] at h2
    exact ⟨j, m, h1, h2⟩
  refine ⟨⟨n.abs.le, by rw [List.length_set, List.length_set]; exact n.abs.len, fun j s h => ?_, fun j k b m b' m' x h1 h2 h3 h4 => ?_⟩, n.g, fun b o h no => n.k b o h fun w => no (ow1 w), n.d, fun b u h => ?_, fun b h => ?_, fun j m h => ?_, fun j m h => ?_⟩
  · have hs := List.all_eq_true.mp hc _ (List.mem_of_getElem? h)
    rcases get_set h with ⟨rfl, rfl, hl⟩ | ⟨hj, h⟩
    · trivial
    · rw [ne2 hj]
      have q := n.abs.sl j s h
      cases s with
      | non => trivial
      | val x => obtain ⟨v, e1, r1⟩ := q; exact ⟨v, e1, rep_hold.mpr r1⟩
      | own b m => obtain ⟨x, e1, g1, r1⟩ := q; exact ⟨x, e1, g1, mrep_hold.mpr r1⟩
      | exn x => cases hs
  · obtain ⟨e1, f1⟩ := own2 h1
    obtain ⟨e2, f2⟩ := own2 h2
    rw [ne2 e1] at h3
    rw [ne2 e2] at h4
    exact n.abs.inj j k b m b' m' x f1 f2 h3 h4
  · rcases n.f b u h with w | w | w
    · exact .inl w
    · exact .inr (.inl w)
    · exact .inr (.inr (owF1 w))
  · obtain ⟨j, f, m, h1, h2⟩ := h
    obtain ⟨hj, h1⟩ := own2 h1
    rw [ne2 hj] at h2
    rcases n.w b ⟨j, f, m, h1, h2⟩ with w | w
    · exact .inl (ow1 w)
    · exact .inr w
  · have hj := ni h
    obtain ⟨⟨m', h'⟩, h2⟩ := n.br j m (by rw [neρ hj]; exact h)
    exact ⟨⟨m', by rw [List.getElem?_set_ne (Ne.symm hj)]; exact h'⟩, by rw [ne2 hj, h2, ne1 hj]⟩
  · obtain ⟨hj, h⟩ := own2 h
    obtain ⟨m', h'⟩ := n.nb j m h
    exact ⟨m', (own1 h').2⟩
/-- behind the suite -/
def endX (i : Nat) : SO → SO
  | .nxt ρ => if clean (ρ.set i .non) then .nxt (ρ.set i .non) else .stuck
  | .brk ρ => if clean (ρ.set i .non) then .brk (ρ.set i .non) else .stuck
  | .cnt ρ => if clean (ρ.set i .non) then .cnt (ρ.set i .non) else .stuck
  | .ret r ρ => if clean (ρ.set i .non) then .ret r (ρ.set i .non) else .stuck
  | _ => .stuck
/-- which of the own exceptions a clause catches -/
structure CatchAt (D : Wd) (mg : Str → Option Value) (x : Str) (tab : List Nat) : Prop where
  ex : ∃ C : Addr, mg x = some (.ref C) ∧ ∀ c C', D.E c C' → PySem.W.exmOne D.K (.ref C') (.ref C) = some (decide (c ∈ tab))
def tryAs (mb : SM) (tab : List Nat) (i : Nat) (ms : SM) : SM := fun ρ => match mb ρ with
  | .exc e ρ1 => if e.c ∈ tab then (if clean ρ1 && noOwn ρ1 i then endX i (ms (ρ1.set i (.exn e))) else .stuck) else .exc e ρ1
  | o => o
abbrev WF : WX := fun _ _ _ _ => False
theorem ks_out {i a : Nat} {c : Value} {d : Option Addr} {e : Ex} {o : SO} {E : Ends} (A : Abs D G1 H1 σ1 ρ1) (hi : noOwn ρ1 i = true) (n1 : Nx D G H σ ρ G1 H1 σ1 ρ1) (k : Ks D W (endX i o) G H σ ρ E) :
    Ks (D.hold (some (a, c, d))) WF o G1 H1 (σ1.set i (some (.ref a))) (ρ1.set i (.exn e)) { nx := fun σ' H' => E.nx (σ'.set i none) H', rt := E.rt, bk := fun σ' H' => E.bk (σ'.set i none) H', ct := fun σ' H' => E.ct (σ'.set i none) H' } := by
  cases o with
  | nxt ρ2 =>
    by_cases hc : clean (ρ2.set i .non) = true
    · rw [show endX i (.nxt ρ2) = if clean (ρ2.set i .non) then .nxt (ρ2.set i .non) else .stuck from rfl, if_pos hc] at k
      exact fun G2 H2 σ2 n => k G2 H2 _ (n1.trans (nx_out A hi hc n))
    · rw [show endX i (.nxt ρ2) = if clean (ρ2.set i .non) then .nxt (ρ2.set i .non) else .stuck from rfl, if_neg hc] at k
      exact False.elim k
  | brk ρ2 =>
    by_cases hc : clean (ρ2.set i .non) = true
    · rw [show endX i (.brk ρ2) = if clean (ρ2.set i .non) then .brk (ρ2.set i .non) else .stuck from rfl, if_pos hc] at k
      exact fun G2 H2 σ2 n => k G2 H2 _ (n1.trans (nx_out A hi hc n))
    · rw [show endX i (.brk ρ2) = if clean (ρ2.set i .non) then .brk (ρ2.set i .non) else .stuck from rfl, if_neg hc] at k
      exact False.elim k
  | cnt ρ2 =>
    by_cases hc : clean (ρ2.set i .non) = true
    · rw [show endX i (.cnt ρ2) = if clean (ρ2.set i .non) then .cnt (ρ2.set i .non) else .stuck from rfl, if_pos hc] at k
      exact fun G2 H2 σ2 n => k G2 H2 _ (n1.trans (nx_out A hi hc n))
    · rw [show endX i (.cnt ρ2) = if clean (ρ2.set i .non) then .cnt (ρ2.set i .non) else .stuck from rfl, if_neg hc] at k
      exact False.elim k
  | ret r ρ2 =>
    by_cases hc : clean (ρ2.set i .non) = true
    · rw [show endX i (.ret r ρ2) = if clean (ρ2.set i .non) then .ret r (ρ2.set i .non) else .stuck from rfl, if_pos hc] at k
      intro G2 H2 σ2 v n rr
      refine k G2 H2 _ v (n1.trans (nx_out A hi hc n)) (RetR.back n1 ?_)
      cases r with
      | v x => exact rep_hold.mpr rr
      | o m =>
        obtain ⟨b, e1, g1, f1, r1⟩ := rr
        refine ⟨b, e1, g1, ?_, mrep_hold.mpr r1⟩
        rcases f1 with f1 | ⟨j, m', h1, h2⟩
        · exact .inl f1
        · rcases get_set h1 with ⟨_, z, _⟩ | ⟨hj, h1⟩
          · cases z
          · rw [List.getElem?_set_ne (Ne.symm hj)] at h2
            exact .inr ⟨j, m', h1, h2⟩
    · rw [show endX i (.ret r ρ2) = if clean (ρ2.set i .non) then .ret r (ρ2.set i .non) else .stuck from rfl, if_neg hc] at k
      exact False.elim k
  | exc ex ρ2 => exact False.elim k
  | stuck => exact False.elim k
theorem s_tryAs {i : Nat} {x n : Str} {tab : List Nat} {body suite : List Stmt} {b0 : Stmt} {np pos pos' : Pos} {mb ms : SM} (hc : CatchAt D X.mg x tab) (hK : D.K = X.K) (tk : Takes X W)
    (hb : ∀ (W' : WX) (pn : List (Addr × Obj)) (xe : Value → Shared → Prop), Takes (X.tr pn xe) W' → PassesOwn (model X.prog X.w) X.A X.env xe → RSs D W' (X.tr pn xe) body mb)
    (hsu : ∀ (a : Addr) (oe : Obj) (cls : Value) (d : Option Addr) (pn : List (Addr × Obj)), Zc cls d oe → (∃ vs, oe.data = .fields vs) → RSs (D.hold (some (a, cls, d))) WF (X.suite a ((a, oe) :: pn)) (b0 :: suite) ms)
    (hN : X.N.Nodup) (hi : X.N[i]? = some n) (hs : X.stack = X.env :: X.outer := by rfl) (hf : X.env.frame = some X.env.locals := by rfl) (hln : X.env.kindOf n = some .local := by rfl) (hg : Gl X x := by rfl) (hdb : (x == ("__debug__" : Str)) = false := by decide) :
    RS D W X (.Try body [.ExceptHandler (some (.Name x np)) (some n) (b0 :: suite) pos'] [] [] pos) (tryAs mb tab i ms) := by
  obtain ⟨C, hm, hx⟩ := hc.ex
  refine (ps_try_as (tb := fun W => tS D W mb) (ts := fun a cls d => tS (D.hold (some (a, cls, d))) WF ms) hs hf hN hi hln ⟨hg, hdb, .inl hm⟩ tk hb hsu).imp fun E σ H ⟨G, ρ, A, k⟩ => ⟨G, ρ, A, ?_⟩
  unfold tryAs at k
  cases q : mb ρ with
  | nxt ρ1 => rw [q] at k; exact k
  | brk ρ1 => rw [q] at k; exact k
  | cnt ρ1 => rw [q] at k; exact k
  | ret r ρ1 => rw [q] at k; exact k
  | stuck => rw [q] at k; exact k
  | exc e ρ1 =>
    rw [q] at k
    intro G1 H1 σ1 c d n1 er
    obtain ⟨C', dx, ws, rfl, hE, rfl, hr, rf⟩ := er
    refine ⟨_, hK ▸ hx e.c C' hE, fun ht a ha => ?_, fun hf => ?_⟩
    · have ht' : e.c ∈ tab := of_decide_eq_true ht
      dsimp only at k
      rw [if_pos ht'] at k
      split at k
      · rename_i hcl
        obtain ⟨hcl, hno⟩ := Bool.and_eq_true_iff.mp hcl
        exact ⟨G1, ρ1.set i (.exn e), abs_in n1.abs hcl hno ⟨C', dx, ws, rfl, hE, rfl, hr, rf⟩, ks_out n1.abs hno n1 k⟩
      · exact False.elim k
    · have ht' : ¬ e.c ∈ tab := of_decide_eq_false hf
      dsimp only at k
      rw [if_neg ht'] at k
      exact k G1 H1 σ1 _ _ n1 ⟨C', dx, ws, rfl, hE, rfl, hr, rf⟩
/-- a clause without a name -/
def noXs : SO → SO
  | .exc _ _ => .stuck
  | o => o
def tryOn (mb : SM) (tab : List Nat) (ms : SM) : SM := fun ρ => match mb ρ with
  | .exc e ρ1 => if e.c ∈ tab then noXs (ms ρ1) else .exc e ρ1
  | o => o
theorem s_tryOn {x : Str} {tab : List Nat} {body suite : List Stmt} {b0 : Stmt} {np pos pos' : Pos} {mb ms : SM} (hc : CatchAt D X.mg x tab) (hK : D.K = X.K) (tk : Takes X W)
    (hb : ∀ (W' : WX) (pn : List (Addr × Obj)) (xe : Value → Shared → Prop), Takes (X.tr pn xe) W' → PassesOwn (model X.prog X.w) X.A X.env xe → RSs D W' (X.tr pn xe) body mb)
    (hsu : ∀ (a : Addr) (oe : Obj) (pn : List (Addr × Obj)), RSs D WF (X.suite a ((a, oe) :: pn)) (b0 :: suite) ms)
    (hs : X.stack = X.env :: X.outer := by rfl) (hf : X.env.frame = some X.env.locals := by rfl) (hg : Gl X x := by rfl) (hdb : (x == ("__debug__" : Str)) = false := by decide) :
    RS D W X (.Try body [.ExceptHandler (some (.Name x np)) none (b0 :: suite) pos'] [] [] pos) (tryOn mb tab ms) := by
  obtain ⟨C, hm, hx⟩ := hc.ex
  refine (ps_try_only (tb := fun W => tS D W mb) (ts := fun a cls d => tS D WF ms) hs hf ⟨hg, hdb, .inl hm⟩ tk hb fun a oe cls d pn _ _ => hsu a oe pn).imp fun E σ H ⟨G, ρ, A, k⟩ => ⟨G, ρ, A, ?_⟩
  unfold tryOn at k
  cases q : mb ρ with
  | nxt ρ1 => rw [q] at k; exact k
  | brk ρ1 => rw [q] at k; exact k
  | cnt ρ1 => rw [q] at k; exact k
  | ret r ρ1 => rw [q] at k; exact k
  | stuck => rw [q] at k; exact k
  | exc e ρ1 =>
    rw [q] at k
    intro G1 H1 σ1 c d n1 er
    obtain ⟨C', dx, ws, rfl, hE, rfl, hr, rf⟩ := er
    refine ⟨_, hK ▸ hx e.c C' hE, fun ht a ha => ⟨G1, ρ1, n1.abs, ?_⟩, fun hf => ?_⟩
    · dsimp only at k
      rw [if_pos (of_decide_eq_true ht)] at k
      cases q2 : ms ρ1 with
      | exc e2 ρ2 => rw [q2] at k; exact False.elim k
      | stuck => rw [q2] at k; exact False.elim k
      | nxt ρ2 => rw [q2] at k; exact Ks.from n1 k
      | brk ρ2 => rw [q2] at k; exact Ks.from n1 k
      | cnt ρ2 => rw [q2] at k; exact Ks.from n1 k
      | ret r ρ2 => rw [q2] at k; exact Ks.from n1 k
    · dsimp only at k
      rw [if_neg (of_decide_eq_false hf)] at k
      exact k G1 H1 σ1 _ _ n1 ⟨C', dx, ws, rfl, hE, rfl, hr, rf⟩
/-- what an own exception class must have for its instances' fields to be read -/
structure XfAt (D : Wd) (f : Str) : Prop where
  h : ∀ c C, D.E c C → XfC D.K C ∧ PySem.W.findIn D.K (.ref C) f = some none
/-- err.f -/
def xfld (i : Nat) (f : Str) : EM PV := fun ρ => match ρ[i]? with
  | some (.exn e) => lift (e.fs.lookup f) ρ
  | _ => .stuck
theorem re_xf {i a : Nat} {f : Str} {oe : Obj} {cls : Value} {d : Option Addr} {pn : List (Addr × Obj)} {e : Expr} {pos : Pos} (hf : XfAt D f) (hK : D.K = X.K) (hz : Zc cls d oe) (hd : ∃ vs, oe.data = .fields vs) (he : PE (X.suite a ((a, oe) :: pn)) e (tVar i))
    (hb : attributeBase e f X.env (eval e X.env) = eval e X.env := by rfl) : RE (D.hold (some (a, cls, d))) WF (X.suite a ((a, oe) :: pn)) (.Attribute e f pos) (xfld i f) := ⟨fun pins s σ H Q I ⟨G, ρ, A, k⟩ => by
  unfold xfld at k
  split at k
  · rename_i ex e0
    obtain ⟨y, e1, g⟩ := Kg.lift A k
    obtain ⟨a', c', d', ea, e2, C, dx, ws, ec, hE, ed, hr, rf⟩ := A.sl i _ e0
    have ea' : a = a' ∧ cls = c' ∧ d = d' := by
      have := Option.some.inj ea
      exact ⟨(Prod.mk.inj this).1, (Prod.mk.inj (Prod.mk.inj this).2).1, (Prod.mk.inj (Prod.mk.inj this).2).2⟩
    obtain ⟨rfl, rfl, rfl⟩ := ea'
    subst ec
    subst ed
    obtain ⟨v, e3, rv⟩ := repf_some rf e1
    obtain ⟨T, hno⟩ := hf.h ex.c C hE
    exact (pe_xf (X := X) (pos := pos) (hK ▸ T) (hK ▸ hno) hz hd he hb).run pins s σ H Q I ⟨_, e2, rfl, rfl, dx, ws, v, rfl, A.le _ _ hr, e3, g G H (Grow.refl A.le) v rv⟩
  · exact False.elim k⟩
end
end TR

set_option Elab.async false
set_option linter.all false
set_option maxRecDepth 100000
/-! TRZF: classes made with keywords or whose making may raise; evaluation of raise and try; what the end needs. -/
namespace TR
open PySem PySem.Spec L2
set_option autoImplicit false
section
variable {D : Wd} {W : WX} {X : Cx} {e o : Expr} {es : List Expr} {pos p p2 p3 : Pos} {m mo : EM PV} {ms mz : EM (List AV)} {G G1 G' H H1 H2 H' : Hp} {kws : List Keyword}
def mkXR (c : Nat) (f : FM) (as : List AV) : EM MO := fun ρ => match mkArgs as ρ with
  | none => .stuck
  | some ss => if (owns as ρ).Nodup then (match f (.own true (.obj c []) :: ss) with
    | .ok (.v .non) (.own true mo :: ss') => .ok mo (putBack as ss' ρ)
    | .exc e (.own true mo :: ss') => .exc e (putBack as ss' ρ)
    | _ => .stuck) else .stuck
def mkX (c : Nat) (f : FM) (ms : EM (List AV)) : EM MO := fun ρ => (ms ρ).bind fun as ρ => mkXR c f as ρ
theorem mkX_le {c : Nat} {fm : FM} {C : Addr} (t : D.T c C) (σ : St) (H : Hp) (Q : VK) (h : tN D W (mkX c fm ms) σ H Q) : tMkA C (FSp D fm) W (tA D W ms) σ H Q := by
  obtain ⟨G, ρ, A, k0⟩ := h
  refine ⟨G, ρ, A, ?_⟩
  unfold mkX at k0
  cases q : ms ρ with
  | stuck => rw [q] at k0; exact k0
  | exc ex ρ' => rw [q] at k0; exact k0
  | ok as ρ1 =>
    rw [q] at k0
    simp only [Out.bind_ok] at k0
    intro G1 H1 n1 vs rs x dx hx hd ne
    unfold mkXR at k0
    split at k0
    · exact False.elim k0
    · rename_i ss es
      split at k0
      · rename_i nd
        have A1 := abs_args n1.abs rs es nd
        obtain ⟨gx, ox⟩ := free_of A1 hx
        obtain ⟨gd, od⟩ := free_of A1 hd
        have m1 : Nx D G1 H1 (vs.map some) ss G1 (upd H1 dx (.own x)) (vs.map some) ss := nx_new (Nx.refl A1) hd gd od
        have m2 : Nx D G1 H1 (vs.map some) ss G1 (upd (upd H1 dx (.own x)) x (.ins C dx [])) (vs.map some) ss := nx_new m1 hx gx ox
        have A2 : Abs D G1 (upd (upd H1 dx (.own x)) x (.ins C dx [])) ((V.ref x :: vs).map some) (.own true (.obj c []) :: ss) := by
          refine ⟨m2.abs.le, by have := m2.abs.len; simpa using this, fun i s h => ?_, fun i j b mo1 b' mo2 a h1 h2 h3 h4 => ?_⟩
          · cases i with
            | zero =>
              simp at h; subst h
              exact ⟨x, rfl, gx, C, dx, [], upd_same, t, rfl⟩
            | succ i => exact m2.abs.sl i s (by simpa using h)
          · have nx : ∀ {i : Nat} {b : Bool} {mo1 : MO}, ss[i]? = some (.own b mo1) → (vs.map some)[i]? = some (some (V.ref x)) → False := fun {i b mo1} u1 u2 => ox ⟨i, b, mo1, u1, u2⟩
            cases i with
            | zero =>
              cases j with
              | zero => rfl
              | succ j =>
                simp at h3
                subst h3
                exact (nx (i := j) (by simpa using h2) (by simpa using h4)).elim
            | succ i =>
              cases j with
              | zero =>
                simp at h4
                subst h4
                exact (nx (i := i) (by simpa using h1) (by simpa using h3)).elim
              | succ j => rw [m2.abs.inj i j b mo1 b' mo2 a (by simpa using h1) (by simpa using h2) (by simpa using h3) (by simpa using h4)]
        refine ⟨G1, .own true (.obj c []) :: ss, (mkArgs_get es).2.1, A2, ?_⟩
        split at k0
        · rename_i mo ss' hf
          rw [hf]
          intro G' H' v n rr
          have nt := nx_tail n1.abs.le hx hd ne A1 n
          have nc := nx_call n1.abs rs es nd nt
          obtain ⟨ad, e1, ga, rm⟩ := n.abs.own (i := 0) (b := true) (m := mo) rfl
          simp at e1
          subst e1
          refine ⟨rr, k0 G' H' (n1.trans nc) x ga (n1.d x hx) rm fun w => ?_⟩
          obtain ⟨⟨u, hu⟩, _⟩ := n1.abs.ow_some (putBack_ow as ss' ρ1 w)
          rw [hx] at hu; cases hu
        · rename_i ex mo ss' hf
          rw [hf]
          intro G' H' cl d n er
          exact k0 G' H' cl d (n1.trans (nx_call n1.abs rs es nd (nx_tail n1.abs.le hx hd ne A1 n))) er
        · exact False.elim k0
      · exact False.elim k0
theorem rn_mkX {k c : Nat} {x : Str} {fm : FM} (F : MkAt X.prog X.w X.K X.mg X.base D k c x fm) (hr : Room (k + 1) X.A) (tk : Takes X W) (ha : RA D W X (e :: es) ms) (hg : Gl X x := by rfl) (hdb : (x == ("__debug__" : Str)) = false := by decide)
    (he : starEach (e :: es) X.env = (false, eval e X.env) :: starEach es X.env := by rfl) (hpl : (backTo pos (starEach es X.env)).any (·.1) = false := by rfl) : RN D W X (.Call (.Name x p) (e :: es) [] pos) (mkX c fm ms) := by
  obtain ⟨C, f, fd, ps, h1, h2, h3, h4, h5⟩ := F.ex
  refine PE.imp (t := tMkA C (FSp D fm) W (tA D W ms)) ⟨fun pins s σ H Q I h => ?_⟩ (mkX_le h2)
  refine wpAny_Call_Name_kw (ld_glob I hg h1 (PySem.W.callWith_K (h₀ := X.base) I.ok.mod.kin h3.kp (thn (ha.run pos pins s σ H _ I h) fun us s1 hy => ?_) he hpl) hdb)
  obtain ⟨vs, H1, I1, r, q⟩ := hy
  exact ⟨I1.kIn, run_mkA h3 h5 hr h4 tk I1 r q⟩
theorem rn_mkX0 {k c : Nat} {x : Str} {fm : FM} (F : MkAt X.prog X.w X.K X.mg X.base D k c x fm) (hr : Room (k + 1) X.A) (tk : Takes X W) (hg : Gl X x := by rfl) (hdb : (x == ("__debug__" : Str)) = false := by decide) : RN D W X (.Call (.Name x p) [] [] pos) (mkX c fm argNil) := by
  obtain ⟨C, f, fd, ps, h1, h2, h3, h4, h5⟩ := F.ex
  refine PE.imp (t := tMkA C (FSp D fm) W tNil) ⟨fun pins s σ H Q I h => ?_⟩ fun σ H Q h => ?_
  · exact wpAny_Call_Name_kw (ld_glob I hg h1 (PySem.W.callWith_K0 I.kIn h3.kp (run_mkA (us := []) h3 h5 hr h4 tk I .nil h)) hdb)
  · obtain ⟨G, ρ, A, k⟩ := mkX_le h2 σ H Q h
    exact k G H (Nx.refl A) [] rfl
/-! ### with keywords -/
structure KwBm (K : PySem.W.Frag) (D : Wd) (fd : FuncData) (ps : List Str) (n : Nat) (ks : List Str) (arr : List Src) : Prop where
  ex : ∃ (dU : Nat → Value) (dV : Nat → V), (∀ j x, Src.df j x ∈ arr → RelV (dV j) (dU j) ∧ ∀ G, Rep D G x (dV j)) ∧
    ∀ (s : Shared) (o : Value) (us ws : List Value), K.In s.heap → us.length = n → ws.length = ks.length → BindsTo s fd ⟨o :: us, ks.zip ws⟩ (ps.zip (o :: arr.map (Src.uv dU (us ++ ws))))
structure DefMkK (K : PySem.W.Frag) (mg : Str → Option Value) (D : Wd) (c : Nat) (x qual : Str) (st : Stmt) (ps : List Str) (shs : List Sh) : Prop where
  ex : ∃ (C f : Addr) (fd : FuncData), mg x = some (.ref C) ∧ D.T c C ∧ Mk K C f ∧ Fun K "__init__" qual st f fd ∧ ∀ sh ∈ shs, KwBm K D fd ps sh.n sh.ks sh.arr
structure MkAtK (P : Program) (w : World) (K : PySem.W.Frag) (mg : Str → Option Value) (base : Heap) (D : Wd) (k c : Nat) (x : Str) (shs : List Sh) (fm : FM) : Prop where
  ex : ∃ (C f : Addr) (fd : FuncData) (ps : List Str), mg x = some (.ref C) ∧ D.T c C ∧ Mk K C f ∧ (∀ sh ∈ shs, KwBm K D fd ps sh.n sh.ks sh.arr) ∧ FnOk P w K mg base (L2.CX P w) k f fd ps (FSp D fm)
theorem MkAtK.mono {P : Program} {w : World} {K : PySem.W.Frag} {mg : Str → Option Value} {base : Heap} {j k c : Nat} {x : Str} {shs : List Sh} {fm : FM} (h : MkAtK P w K mg base D j c x shs fm) (l : j ≤ k) : MkAtK P w K mg base D k c x shs fm :=
  let ⟨C, f, fd, ps, a, t, b, d, F⟩ := h.ex; ⟨C, f, fd, ps, a, t, b, d, F.mono l⟩
theorem mkK_at {P : Program} {w : World} {K : PySem.W.Frag} {mg : Str → Option Value} {base : Heap} {c : Nat} {x qual : Str} {st : Stmt} {N ps : List Str} {shs : List Sh} {k n : Nat} {body : SM} (d : DefMkK K mg D c x qual st ps shs) (S : FnScope N ps (defScope st)) (hn : ps.length = n) (hN : n ≤ N.length)
    (hb : ∀ {f : Addr} (cdv : Value) (A : Around) (outer : List Env) (s : Shared) (H : Hp) (E : XK), Room k (A.deeper (PyProof.Rows.envOfC qual (defScope st) s.heap.objs.size f cdv)) → Takes (cxB P w K mg base N qual (defScope st) f cdv A outer s H E) (fun c d _ H => E c d H) → RSs D (fun c d _ H => E c d H) (cxB P w K mg base N qual (defScope st) f cdv A outer s H E) (defBody st) body) :
    MkAtK P w K mg base D (k + 1) c x shs (fnB n N.length body) := by
  obtain ⟨C, f, fd, h1, h2, h3, h4, h5⟩ := d.ex
  exact ⟨C, f, fd, ps, h1, h2, h3, h5, fn_ok h4 S hn hN fun cdv A outer s H E hr => hb cdv A outer s H E hr (takes_of rfl rfl rfl rfl)⟩
def mkK (c : Nat) (f : FM) (n m : Nat) (arr : List Src) (ms mz : EM (List AV)) : EM MO := mkX c f (argsK n m arr ms mz)
theorem run_mkK {k : Nat} {C f : Addr} {fd : FuncData} {ps ks : List Str} {arr : List Src} {sp : Sp} {pins : List (Addr × Obj)} {σ : St} {s : Shared} {Q : VK} {us ws : List Value} {vs zs : List V} {dU : Nat → Value} {dV : Nat → V} (M : Mk X.K C f) (F : FnOk X.prog X.w X.K X.mg X.base (L2.CX X.prog X.w) k f fd ps sp) (hr : Room (k + 1) X.A) (tk : Takes X W)
    (hd : ∀ j x, Src.df j x ∈ arr → RelV (dV j) (dU j)) (hb : ∀ (s : Shared) (o : Value), X.K.In s.heap → BindsTo s fd ⟨o :: us, ks.zip ws⟩ (ps.zip (o :: arr.map (Src.uv dU (us ++ ws)))))
    (I : Inv X pins σ H s) (r : Vals vs us) (rz : Vals zs ws) (h : ∀ x dx, H x = none → H dx = none → dx ≠ x → sp (.ref x :: arr.map (Src.sv dV (vs ++ zs))) (upd (upd H dx (.own x)) x (.ins C dx [])) (fun v H2 => v = .non ∧ Q (.ref x) H2) (WE W σ)) :
    wpAny (model X.prog X.w) X.A (call (.ref C) us (ks.zip ws)) (EP X pins σ Q) X.xe s := by
  have q0 := h (s.heap.objs.size + 1) s.heap.objs.size (I.hok.fresh (Nat.le_succ _)) (I.hok.fresh (Nat.le_refl _)) (Nat.ne_of_lt (Nat.lt_succ_self _))
  have J := Inv.made (C := C) I
  have rr : Vals (V.ref (s.heap.objs.size + 1) :: arr.map (Src.sv dV (vs ++ zs))) (Value.ref (s.heap.objs.size + 1) :: arr.map (Src.uv dU (us ++ ws))) := .cons rfl (vals_arr (r.append rz) arr hd)
  refine wpAny_call (make_map (f := f) I.kIn M.makes M.init (beq_iff_eq.mp M.fn) (codeAny_mono (F.run _ X.stack _ _ ⟨Value.ref (s.heap.objs.size + 1) :: us, ks.zip ws⟩ _ _ _ (WE W σ) (hr.make C us (ks.zip ws)) (J.env0.make C us (ks.zip ws)) (hb _ _ J.kIn) rr q0) fun res s' hq => ?_))
  cases res with
  | error er => exact passAt tk σ pins _ _ er s' J hq
  | ok fl =>
    cases fl with
    | ret u =>
      obtain ⟨v, H', I3, rv, ev, q3⟩ := J.after hq
      cases ev
      exact ⟨rv, V.ref (s.heap.objs.size + 1), H', I3, rfl, q3⟩
    | _ => exact hq.elim
theorem rn_mkK {k c : Nat} {x : Str} {shs : List Sh} {fm : FM} {sh : Sh} (F : MkAtK X.prog X.w X.K X.mg X.base D k c x shs fm) (hs : sh ∈ shs) (hr : Room (k + 1) X.A) (tk : Takes X W) (ha : RA D W X (e :: es) ms) (hz : RK D W X kws mz) (hg : Gl X x := by rfl)
    (hall : (backToKw pos (keywordEach kws X.env)).all (·.1.isSome) = true := by rfl) (hks : (backToKw pos (keywordEach kws X.env)).filterMap (·.1) = sh.ks := by rfl) (hdb : (x == ("__debug__" : Str)) = false := by decide)
    (he : starEach (e :: es) X.env = (false, eval e X.env) :: starEach es X.env := by rfl) (hpl : ((backTo pos (starEach (e :: es) X.env)).any (·.1) || (backToKw pos (keywordEach kws X.env)).any (·.1.isNone)) = false := by rfl) :
    RN D W X (.Call (.Name x p) (e :: es) kws pos) (mkK c fm sh.n sh.ks.length sh.arr ms mz) := by
  obtain ⟨C, f, fd, ps, h1, h2, h3, h4, h5⟩ := F.ex
  obtain ⟨dU, dV, hd, hb⟩ := (h4 sh hs).ex
  refine PE.imp (t := tKw sh.n sh.ks.length W (fun vs zs H Q E => ∀ x dx, H x = none → H dx = none → dx ≠ x → FSp D fm (.ref x :: sh.arr.map (Src.sv dV (vs ++ zs))) (upd (upd H dx (.own x)) x (.ins C dx [])) (fun v H2 => v = .non ∧ Q (.ref x) H2) E) (tA D W ms) (tA D W mz))
    ⟨fun pins s σ H Q I h => ?_⟩ fun σ H Q h => argsK_le (fun j x m => (hd j x m).2) σ H _ (mkX_le h2 σ H Q h)
  refine wpAny_Call_Name_kw (ld_glob I hg h1 (PySem.W.callWith_KW (h₀ := X.base) I.ok.mod.kin h3.kp hall (thn (ha.run pos pins s σ H _ I h) fun us s1 hy => ?_) hpl he) hdb)
  obtain ⟨vs, H1, I1, r, q⟩ := hy
  refine thn (hz.run pos pins s1 σ H1 _ I1 q) fun ws s2 hy => ?_
  obtain ⟨zs, H2, I2, rz, l1, l2, q2⟩ := hy
  refine ⟨I2.kIn, ?_⟩
  rw [hks]
  exact run_mkK h3 h5 hr tk (fun j x m => (hd j x m).1) (fun s o k => hb s o us ws k (r.length.symm.trans l1) (rz.length.symm.trans l2)) I2 r rz q2
/-! ### evaluation -/
def rsx (c : Nat) (fs : List Str) : Option (List PV) → SM
  | some xs, ρ => if xs.length = fs.length then .exc ⟨c, (fs.zip xs).reverse⟩ ρ else .stuck
  | none, _ => .stuck
@[simp] theorem rsx_some (c : Nat) (fs : List Str) (xs : List PV) (ρ : Ev) : rsx c fs (some xs) ρ = if xs.length = fs.length then .exc ⟨c, (fs.zip xs).reverse⟩ ρ else .stuck := (rfl)
def kRs (c : Nat) (fs : List Str) : List AV → SM := fun as ρ => rsx c fs (vals as) ρ
@[simp] theorem kRs_ (c : Nat) (fs : List Str) (as : List AV) (ρ : Ev) : kRs c fs as ρ = rsx c fs (vals as) ρ := (rfl)
@[simp] theorem ev_raise (c : Nat) (fs : List Str) (ms : EM (List AV)) (ρ : Ev) : raiseM c fs ms ρ = (ms ρ).to (kRs c fs) := by
  unfold raiseM
  cases ms ρ with
  | ok as ρ => simp only [Out.to_ok, kRs_]; cases vals as <;> rfl
  | _ => rfl
def nOw : Option Slot → Bool
  | some (.own _ _) => false
  | some (.exn _) => false
  | some _ => true
  | none => false
@[simp] theorem nOw_non : nOw (some .non) = true := (rfl)
@[simp] theorem nOw_val (x : PV) : nOw (some (.val x)) = true := (rfl)
@[simp] theorem ev_noOwn (ρ : Ev) (i : Nat) : noOwn ρ i = nOw ρ[i]? := (rfl)
@[simp] theorem noEx_non : noEx .non = true := (rfl)
@[simp] theorem noEx_val (x : PV) : noEx (.val x) = true := (rfl)
@[simp] theorem noEx_own (b : Bool) (m : MO) : noEx (.own b m) = true := (rfl)
@[simp] theorem clean_nil : clean [] = true := (rfl)
@[simp] theorem clean_cons (s : Slot) (ρ : Ev) : clean (s :: ρ) = (noEx s && clean ρ) := (rfl)
@[simp] theorem endX_nxt (i : Nat) (ρ : Ev) : endX i (.nxt ρ) = if clean (ρ.set i .non) = true then .nxt (ρ.set i .non) else .stuck := (rfl)
@[simp] theorem endX_ret (i : Nat) (r : Ret) (ρ : Ev) : endX i (.ret r ρ) = if clean (ρ.set i .non) = true then .ret r (ρ.set i .non) else .stuck := (rfl)
def tryK (tab : List Nat) (i : Nat) (ms : SM) : SO → SO
  | .exc e ρ1 => if e.c ∈ tab then (if (clean ρ1 && noOwn ρ1 i) = true then endX i (ms (ρ1.set i (.exn e))) else .stuck) else .exc e ρ1
  | o => o
@[simp] theorem tryK_nxt (tab : List Nat) (i : Nat) (ms : SM) (ρ : Ev) : tryK tab i ms (.nxt ρ) = .nxt ρ := (rfl)
@[simp] theorem tryK_ret (tab : List Nat) (i : Nat) (ms : SM) (r : Ret) (ρ : Ev) : tryK tab i ms (.ret r ρ) = .ret r ρ := (rfl)
@[simp] theorem tryK_exc (tab : List Nat) (i : Nat) (ms : SM) (e : Ex) (ρ : Ev) : tryK tab i ms (.exc e ρ) = if e.c ∈ tab then (if (clean ρ && noOwn ρ i) = true then endX i (ms (ρ.set i (.exn e))) else .stuck) else .exc e ρ := (rfl)
@[simp] theorem ev_tryAs (mb : SM) (tab : List Nat) (i : Nat) (ms : SM) (ρ : Ev) : tryAs mb tab i ms ρ = tryK tab i ms (mb ρ) := by
  unfold tryAs
  cases mb ρ <;> rfl
@[simp] theorem noXs_nxt (ρ : Ev) : noXs (.nxt ρ) = .nxt ρ := (rfl)
@[simp] theorem noXs_ret (r : Ret) (ρ : Ev) : noXs (.ret r ρ) = .ret r ρ := (rfl)
def tryL (tab : List Nat) (ms : SM) : SO → SO
  | .exc e ρ1 => if e.c ∈ tab then noXs (ms ρ1) else .exc e ρ1
  | o => o
@[simp] theorem tryL_nxt (tab : List Nat) (ms : SM) (ρ : Ev) : tryL tab ms (.nxt ρ) = .nxt ρ := (rfl)
@[simp] theorem tryL_ret (tab : List Nat) (ms : SM) (r : Ret) (ρ : Ev) : tryL tab ms (.ret r ρ) = .ret r ρ := (rfl)
@[simp] theorem tryL_exc (tab : List Nat) (ms : SM) (e : Ex) (ρ : Ev) : tryL tab ms (.exc e ρ) = if e.c ∈ tab then noXs (ms ρ) else .exc e ρ := (rfl)
@[simp] theorem ev_tryOn (mb : SM) (tab : List Nat) (ms : SM) (ρ : Ev) : tryOn mb tab ms ρ = tryL tab ms (mb ρ) := by
  unfold tryOn
  cases mb ρ <;> rfl
def xf (f : Str) : Option Slot → Ev → Out PV
  | some (.exn e), ρ => lift (e.fs.lookup f) ρ
  | _, _ => .stuck
@[simp] theorem xf_exn (f : Str) (e : Ex) (ρ : Ev) : xf f (some (.exn e)) ρ = lift (e.fs.lookup f) ρ := (rfl)
@[simp] theorem ev_xfld (i : Nat) (f : Str) (ρ : Ev) : xfld i f ρ = xf f ρ[i]? ρ := by
  unfold xfld
  cases ρ[i]? with
  | none => rfl
  | some s => cases s <;> rfl
def mxk (as : List AV) (ρ : Ev) : FOut → Out MO
  | .ok (.v .non) (.own true mo :: ss') => .ok mo (putBack as ss' ρ)
  | .exc e (.own true mo :: ss') => .exc e (putBack as ss' ρ)
  | _ => .stuck
@[simp] theorem mxk_ok (as : List AV) (ρ : Ev) (mo : MO) (ss : List Slot) : mxk as ρ (.ok (.v .non) (.own true mo :: ss)) = .ok mo (putBack as ss ρ) := (rfl)
@[simp] theorem mxk_exc (as : List AV) (ρ : Ev) (e : Ex) (mo : MO) (ss : List Slot) : mxk as ρ (.exc e (.own true mo :: ss)) = .exc e (putBack as ss ρ) := (rfl)
def mxg (c : Nat) (f : FM) (as : List AV) (ρ : Ev) : Option (List Slot) → Out MO
  | some ss => if (owns as ρ).Nodup then mxk as ρ (f (.own true (.obj c []) :: ss)) else .stuck
  | none => .stuck
@[simp] theorem mxg_some (c : Nat) (f : FM) (as : List AV) (ρ : Ev) (ss : List Slot) : mxg c f as ρ (some ss) = if (owns as ρ).Nodup then mxk as ρ (f (.own true (.obj c []) :: ss)) else .stuck := (rfl)
def kMx (c : Nat) (f : FM) : List AV → Ev → Out MO := fun as ρ => mxg c f as ρ (mkArgs as ρ)
@[simp] theorem kMx_ (c : Nat) (f : FM) (as : List AV) (ρ : Ev) : kMx c f as ρ = mxg c f as ρ (mkArgs as ρ) := (rfl)
@[simp] theorem ev_mkX (c : Nat) (f : FM) (ms : EM (List AV)) (ρ : Ev) : mkX c f ms ρ = (ms ρ).bind (kMx c f) := by
  unfold mkX
  congr 1
  funext as ρ
  unfold mkXR kMx mxg
  cases mkArgs as ρ with
  | none => rfl
  | some ss =>
    dsimp only
    split
    · unfold mxk
      split <;> simp_all
    · rfl
@[simp] theorem ev_mkK (c : Nat) (f : FM) (n m : Nat) (arr : List Src) (ms mz : EM (List AV)) (ρ : Ev) : mkK c f n m arr ms mz ρ = (argsK n m arr ms mz ρ).bind (kMx c f) := ev_mkX c f (argsK n m arr ms mz) ρ
end
/-! ### for the end -/
section
variable {K : PySem.W.Frag} {mg : Str → Option Value} {h : Heap} {D : Wd}
theorem defXc_mk {c : Nat} {cn qual : Str} {st : Stmt} {ps fs : List Str} {C f : Addr} {oc : Value} {od an : Option Addr} {osl : Array (Option Value)} {kV doc pm cdv ct : Value} (X : K.In h) (G : h.Ns mainGlobals mg) (hD : D.E c C)
    (a : PySem.W.nsIn K mainGlobals cn = some (some (.ref C))) (T : XcC K C) (nf : ∀ f ∈ fs, PySem.W.findIn K (.ref C) f = some none) (hm : PySem.W.findIn K (.ref C) "__init__" = some (some (.ref f))) (tf : PySem.W.typeIn K (.ref f) = some (.type "function"))
    (l : K.lookup f = some ⟨oc, od, .func (PySem.W.fnOf "__init__" qual (defArgs st) (defBody st) (defScope st) .none kV doc pm an cdv ct), osl⟩) (cd : PySem.W.codeIn K cdv qual = true) (k : PySem.W.keepIn K (.ref f) = true)
    (hb : ∀ (kV doc pm : Value) (an : Option Addr) (cdv ct : Value) (us : List Value), us.length = ps.length → bindArgs (PySem.W.fnOf "__init__" qual (defArgs st) (defBody st) (defScope st) .none kV doc pm an cdv ct) ⟨us, []⟩ = pure (ps.zip us)) : DefXc K mg D c cn qual st ps fs := by
  have F : Fun K "__init__" qual st f _ := fun_mk l cd k
  exact ⟨C, f, _, PySem.W.mg_of X G a, hD, T, nf, hm, tf, F, F.binds hb⟩
theorem defAtK_mk {x : Str} {st : Stmt} {ps : List Str} {shs : List Sh} {f : Addr} {oc : Value} {od an : Option Addr} {osl : Array (Option Value)} {kV doc pm cdv ct : Value} (X : K.In h) (G : h.Ns mainGlobals mg)
    (a : PySem.W.nsIn K mainGlobals x = some (some (.ref f))) (l : K.lookup f = some ⟨oc, od, .func (PySem.W.fnOf x x (defArgs st) (defBody st) (defScope st) .none kV doc pm an cdv ct), osl⟩) (c : PySem.W.codeIn K cdv x = true) (k : PySem.W.keepIn K (.ref f) = true)
    (hs : ∀ sh ∈ shs, KwB K D (PySem.W.fnOf x x (defArgs st) (defBody st) (defScope st) .none kV doc pm an cdv ct) ps sh.n sh.ks sh.arr) : DefAtK K mg D x st ps shs :=
  ⟨f, _, PySem.W.mg_of X G a, fun_mk l c k, hs⟩
theorem defMkK_mk {c : Nat} {cn qual : Str} {st : Stmt} {ps : List Str} {shs : List Sh} {C f : Addr} {oc : Value} {od an : Option Addr} {osl : Array (Option Value)} {kV doc pm cdv ct : Value} (X : K.In h) (G : h.Ns mainGlobals mg) (hD : ∀ C, mg cn = some (.ref C) → D.T c C)
    (a : PySem.W.nsIn K mainGlobals cn = some (some (.ref C))) (mk : PySem.W.makesIn K C = true) (hm : PySem.W.findIn K (.ref C) "__init__" = some (some (.ref f))) (kC : PySem.W.keepIn K (.ref C) = true) (l : K.lookup f = some ⟨oc, od, .func (PySem.W.fnOf "__init__" qual (defArgs st) (defBody st) (defScope st) .none kV doc pm an cdv ct), osl⟩)
    (cd : PySem.W.codeIn K cdv qual = true) (hf : PySem.W.isFn K (.ref f) = true) (k : PySem.W.keepIn K (.ref f) = true)
    (hs : ∀ sh ∈ shs, KwBm K D (PySem.W.fnOf "__init__" qual (defArgs st) (defBody st) (defScope st) .none kV doc pm an cdv ct) ps sh.n sh.ks sh.arr) : DefMkK K mg D c cn qual st ps shs := by
  have F : Fun K "__init__" qual st f _ := fun_mk l cd k
  exact ⟨C, f, _, PySem.W.mg_of X G a, hD C (PySem.W.mg_of X G a), ⟨mk, hm, hf, kC⟩, F, hs⟩
/-- the binding of a call's form: the keyword-only parameters that lack are looked up in the dict at Dk -/
theorem kwB_mk {fd : FuncData} {ps ks : List Str} {n : Nat} {arr : List Src} {Dk : Addr} (nms : List Str) (dU : Nat → Value) (dV : Nat → V) (hd : ∀ j x, Src.df j x ∈ arr → RelV (dV j) (dU j) ∧ ∀ G, Rep D G x (dV j)) (us0 : List Value) (hq : ∀ q ∈ nms.zip us0, PySem.W.nsIn K Dk q.1 = some (some q.2))
    (hb : ∀ us ws : List Value, us.length = n → ws.length = ks.length → KwChain Dk (nms.zip us0) (bindArgs fd ⟨us, ks.zip ws⟩) (ps.zip (arr.map (Src.uv dU (us ++ ws))))) : KwB K D fd ps n ks arr :=
  ⟨dU, dV, hd, fun s us ws X l1 l2 => BindsTo.of_looks fun M => KwChain.looks X hq (hb us ws l1 l2)⟩
theorem kwBm_mk {fd : FuncData} {ps ks : List Str} {n : Nat} {arr : List Src} {Dk : Addr} (nms : List Str) (dU : Nat → Value) (dV : Nat → V) (hd : ∀ j x, Src.df j x ∈ arr → RelV (dV j) (dU j) ∧ ∀ G, Rep D G x (dV j)) (us0 : List Value) (hq : ∀ q ∈ nms.zip us0, PySem.W.nsIn K Dk q.1 = some (some q.2))
    (hb : ∀ (o : Value) (us ws : List Value), us.length = n → ws.length = ks.length → KwChain Dk (nms.zip us0) (bindArgs fd ⟨o :: us, ks.zip ws⟩) (ps.zip (o :: arr.map (Src.uv dU (us ++ ws))))) : KwBm K D fd ps n ks arr :=
  ⟨dU, dV, hd, fun s o us ws X l1 l2 => BindsTo.of_looks fun M => KwChain.looks X hq (hb o us ws l1 l2)⟩
end
end TR

set_option Elab.async false
set_option linter.all false
set_option maxRecDepth 100000
/-! TRZG: operators of own classes with any right side, methods of new lists, sorted texts. -/
namespace TR
open PySem PySem.Spec L2
set_option autoImplicit false
section
open PySem.W PyProof.Rows
variable {prog : Program} {w : World} {A : Around} {E : Value → Shared → Prop} {s : Shared} {K : Frag} {x C f : Addr} {ox : Obj} {od : Option Obj} {op : Operator} {T : String} {b : Value} {fo ro rc : Option Value}
/-- what the written part says of a built-in type on the right -/
structure RightTy (K : Frag) (C : Addr) (nm : String) (T : String) : Prop where
  ex : ∃ fo ro : Option Value, findIn K (.type T) (PySem.dunder nm) = some fo ∧ findIn K (.type T) (dunderR nm) = some ro ∧ subIn K (.type T) (.ref C) = some false
theorem own_binT {Q : Value → Shared → Prop} (X : K.In s.heap) (I : InstAt s.heap x ox C od) (LT : Looks (model prog w) s.heap (typeOf b) (.type T)) (hc : selfFirst K C = true) (hs : findIn K (.ref C) (PySem.dunder op.info.2) = some (some (.ref f))) (hf : isFn K (.ref f) = true)
    (hr : findIn K (.ref C) (dunderR op.info.2) = some none) (R : RightTy K C op.info.2 T) (h : wpAny (model prog w) A (call (.ref f) [.ref x, b]) (PySem.W.CmpBack Q) E s) : wpAny (model prog w) A (binaryOp op (.ref x) b) Q E s := by
  obtain ⟨cd, rest, e1, e2⟩ := ksp_first hc
  obtain ⟨fo, ro, h1, h2, hsub⟩ := R.ex
  have t := ksp_try X I hs hf h
  rcases hi : op.info with ⟨sym, nm⟩
  rw [hi] at hs hr h1 h2 t
  dsimp only at hs hr h1 h2 t
  obtain ⟨hh, g, d, tt, os⟩ := s
  have y1 : Looks (model prog w) hh (typeOf (.ref x)) (.ref C) := I.type
  have y2 : Looks (model prog w) hh (typeOf b) (.type T) := LT
  have y3 : Looks (model prog w) hh (fillsNumberSlot (.ref C) nm) true := fills_K X e1 e2 hs
  have y4 := ksp_fillsT (M := model prog w) X h1 h2
  have y5 : Looks (model prog w) hh (isSubtype (.type T) (.ref C)) false := looks_subIn X hsub
  have y6 : Looks (model prog w) hh (numberSlotInPython (.ref C) nm) true := ksp_inPy X hs hr (.inl rfl)
  have y7 : Looks (model prog w) hh (numberSlotInPython (.type T) nm) false := Looks.of_pure rfl
  have y8 : Looks (model prog w) hh (typeLookup (.type T) (dunderR nm)) ro := looks_findIn X h2
  generalize ((fo.isSome && !isSeqSlot fo) || (ro.isSome && !isSeqSlot ro)) = right at y4
  have ne : (Value.ref C == Value.type T) = false := by
    rw [Bool.eq_false_iff]
    intro z
    have z' := beq_iff_eq.mp z
    cases z'
  simp only [binaryOp, hi]
  apply wpAny_holding
  apply wpAny_bind
  unfold binaryOp1
  apply wpAny_bind
  apply y1.at
  apply wpAny_bind
  apply y2.at
  apply wpAny_bind
  apply y3.at
  simp only [ne, Bool.false_eq_true, if_false]
  cases right
  all_goals
    ksp_lk
    refine wpAny_mono t (fun r s' hr => ?_) fun _ _ e => e
    obtain ⟨v, rfl, q⟩ := hr
    ksp_lk
    exact q
end
section
variable {D : Wd} {W : WX} {X : Cx} {a b e o : Expr} {es : List Expr} {op : Operator} {pos p p2 apos : Pos} {ma mb : EM PV} {mo : EM MO} {ms : EM (List AV)} {k c : Nat} {nm : Str} {fm : FM} {ta tb : TE} {G G' H H' : Hp}
/-- what an operator of an own class asks, whatever stands on the right -/
def tDunX (X : Cx) (W : WX) (op : Operator) (nm : Str) (ta tb : TE) : TE := fun σ H Q => ta σ H fun x H1 => tb σ H1 fun y H2 => ∃ (a C dx : Addr) (fs : List (Str × V)) (k : Nat) (f : Addr) (fd : FuncData) (ps : List Str) (sp : Sp), x = .ref a ∧ H2 a = some (.ins C dx fs) ∧
  ((∃ (b dy : Addr) (gs : List (Str × V)), y = .ref b ∧ H2 b = some (.ins C dy gs)) ∨ ∃ T : String, TyX X.K H2 y (.type T) ∧ PySem.W.findIn X.K (.ref C) (dunderR op.info.2) = some none ∧ RightTy X.K C op.info.2 T) ∧
  PySem.W.selfFirst X.K C = true ∧ Meth X.K C nm f ∧ Binds X.K fd ps [] ∧ FnOk X.prog X.w X.K X.mg X.base (L2.CX X.prog X.w) k f fd ps sp ∧ Room k X.A ∧ sp [x, y] H2 Q (WE W σ)
theorem pe_dunX (hn : PySem.dunder op.info.2 = nm) (tk : Takes X W) (ha : PE X a ta) (hb : PE X b tb) : PE X (.BinOp a op b pos) (tDunX X W op nm ta tb) := ⟨fun pins s σ H Q I h => by
  refine wpAny_BinOp (thn (ha.run pins s σ H _ I h) fun u s1 ⟨x, H1, I1, rx, h1⟩ => ?_)
  refine thn (hb.run pins s1 σ H1 _ I1 h1) fun v s2 ⟨y, H2, I2, ry, h2⟩ => ?_
  obtain ⟨p, C, dx, fs, k, f, fd, ps, sp, rfl, e1, hy, hc, hm, hb, F, hr, z⟩ := h2
  cases rx
  obtain ⟨_, O1, _⟩ := ins_get I2.hok e1
  obtain ⟨_, J1, _⟩ := O1.look
  have back : wpAny (model X.prog X.w) X.A (call (.ref f) [.ref p, v]) (PySem.W.CmpBack (EP X pins σ Q)) X.xe s2 := wpAny_mono (run_fnSD (E := WE W) (us := [.ref p, v]) (vs := [.ref p, y]) (dvs := []) (ds := []) F hr hb .nil (passAt tk σ) I2 (.cons rfl (.cons ry .nil)) z) (fun r s3 hq => by
    obtain ⟨x, H3, I3, rr, q3⟩ := hq
    cases r <;> first | exact ⟨x, H3, I3, rr, q3⟩ | (cases x <;> first | (cases rr; done) | (obtain ⟨_, rr⟩ := rr; cases rr))) fun _ _ e => e
  rcases hy with ⟨q, dy, gs, rfl, e2⟩ | ⟨T, ty, hnr, R⟩
  · cases ry
    obtain ⟨_, O2, _⟩ := ins_get I2.hok e2
    obtain ⟨_, J2, _⟩ := O2.look
    exact own_bin I2.kIn J1 J2 hc (hn ▸ hm.at_) hm.fn back
  · obtain ⟨P, Z, hp, _⟩ := kit_of I2 ry ty
    exact own_binT I2.kIn J1 (Z.ty _ _ I2.kIn hp) hc (hn ▸ hm.at_) hm.fn hnr R back⟩
/-- the class of that number, and all built-in types on its right -/
structure DunTy (D : Wd) (c : Nat) (nm : String) : Prop where
  r : ∀ C, D.T c C → PySem.W.findIn D.K (.ref C) (dunderR nm) = some none
  t : ∀ C, D.T c C → ∀ T : String, T ∈ ["NoneType", "bool", "int", "str", "list", "tuple", "dict"] → RightTy D.K C nm T
def okY (c : Nat) : PV → Bool
  | .obj d _ => d == c
  | _ => true
def argsX (c : Nat) (ma mb : EM PV) : EM (List AV) := fun ρ => (ma ρ).bind fun x ρ => (mb ρ).bind fun y ρ => match x with
  | .obj c1 fs => if c1 = c ∧ okY c y = true then .ok [.v (.obj c1 fs), .v y] ρ else .stuck
  | _ => .stuck
def dunX (c : Nat) (fm : FM) (ma mb : EM PV) : EM PV := callE fm (argsX c ma mb)
theorem right_ty (u : DunAt D c) (le : LeG G H) {C : Addr} (t : D.T c C) {y : PV} {v : V} (hy : okY c y = true) (r : Rep D G y v) : (∃ (b dy : Addr) (gs : List (Str × V)), v = .ref b ∧ H b = some (.ins C dy gs)) ∨ ∃ T : String, TyX D.K H v (.type T) ∧ T ∈ ["NoneType", "bool", "int", "str", "list", "tuple", "dict"] := by
  cases y with
  | non => cases r; exact .inr ⟨_, .base .non, by simp⟩
  | bl k => cases r; exact .inr ⟨_, .base (.bl k), by simp⟩
  | int k => cases r; exact .inr ⟨_, .base (.int k), by simp⟩
  | str k => cases r; exact .inr ⟨_, .base (.str k), by simp⟩
  | lst xs =>
    obtain ⟨ad, vs, rfl, h, _⟩ := r
    exact .inr ⟨_, tyx_lst (G := G) (sqL_mono le h), by simp⟩
  | tup xs =>
    obtain ⟨ad, vs, rfl, h, _⟩ := r
    exact .inr ⟨_, tyx_tup (G := G) (sqT_mono le h), by simp⟩
  | dct xs =>
    obtain ⟨ad, vs, rfl, h, _⟩ := r
    refine .inr ⟨"dict", ?_, by simp⟩
    exact .base (.dK (le _ _ h))
  | obj d fs =>
    obtain ⟨ad, C', dx, ws, rfl, h, t2, _⟩ := r
    have hd : d = c := by simpa [okY] using hy
    subst hd
    have := u.uq _ _ t t2
    subst this
    exact .inl ⟨ad, dx, ws, rfl, le _ _ h⟩
theorem re_dunX (hK : D.K = X.K) (u : DunAt D c) (ut : DunTy D c op.info.2) (T : MtAt X.prog X.w X.K X.mg X.base D k nm c fm) (hr : Room k X.A) (tk : Takes X W) (ha : RE D W X a ma) (hb : RE D W X b mb) (hn : PySem.dunder op.info.2 = nm := by rfl) : RE D W X (.BinOp a op b pos) (dunX c fm ma mb) :=
  (pe_dunX hn tk ha hb).imp fun σ H Q ⟨G, ρ, A, k⟩ => by
    have k' := Kg.bind (Kg.bind (Kg.map k))
    refine ⟨G, ρ, A, k'.mono fun x ρ1 G1 H1 n1 k1 v rv => ⟨G1, ρ1, n1.abs, (Kg.bind k1).mono fun y ρ2 G2 H2 n2 k2 w rw' => ?_⟩⟩
    split at k2
    · rename_i c1 fs
      split at k2
      · rename_i hc
        obtain ⟨rfl, hy⟩ := hc
        obtain ⟨p, C, dx, ws, e1, e2, t1, r1⟩ := rv.mono n2.leg
        subst e1
        obtain ⟨f, fd, ps, h1, h2, h3, h4⟩ := T.h C t1
        have hR := right_ty u n2.abs.le t1 hy rw'
        refine ⟨p, C, dx, ws, _, f, fd, ps, FSp D fm, rfl, n2.abs.le _ _ e2, ?_, hK ▸ u.sf C t1, h2, h3, h4, hr, ?_⟩
        · rcases hR with h | ⟨T, h5, h6⟩
          · exact .inl h
          · exact .inr ⟨T, hK ▸ h5, hK ▸ ut.r C t1, hK ▸ ut.t C t1 T h6⟩
        refine call_sp (as := [.v (.obj _ fs), .v y]) n2.abs ⟨_, _, rfl, ⟨p, C, dx, ws, rfl, e2, t1, r1⟩, _, _, rfl, rw', rfl⟩ (k2 G2 H2 (Nx.refl n2.abs)) fun r ρ' G' H' v n3 w p3 rr => ?_
        cases r with
        | v x => exact p3 G' H' n3 v rr
        | o mo =>
          obtain ⟨a, rfl, ga, ha, rm⟩ := rr
          obtain ⟨G3, n4, r4⟩ := nx_freeze n3 ga ha rm (ret_free n2.abs ha w)
          exact p3 G3 H' n4 _ r4
      · exact False.elim k2
    · exact False.elim k2
def kXr2 (c : Nat) : PV → PV → Ev → Out (List AV)
  | .obj c1 fs, y, ρ => if c1 = c ∧ okY c y = true then .ok [.v (.obj c1 fs), .v y] ρ else .stuck
  | _, _, _ => .stuck
@[simp] theorem kXr2_ (c c1 : Nat) (fs : List (Str × PV)) (y : PV) (ρ : Ev) : kXr2 c (.obj c1 fs) y ρ = if c1 = c ∧ okY c y = true then .ok [.v (.obj c1 fs), .v y] ρ else .stuck := (rfl)
def kXr1 (c : Nat) (mb : EM PV) : PV → Ev → Out (List AV) := fun x ρ => (mb ρ).bind (kXr2 c x)
@[simp] theorem kXr1_ (c : Nat) (mb : EM PV) (x : PV) (ρ : Ev) : kXr1 c mb x ρ = (mb ρ).bind (kXr2 c x) := (rfl)
@[simp] theorem ev_argsX (c : Nat) (ma mb : EM PV) (ρ : Ev) : argsX c ma mb ρ = (ma ρ).bind (kXr1 c mb) := by
  unfold argsX
  congr 1
  funext x ρ
  unfold kXr1
  congr 1
  funext y ρ
  cases x <;> rfl
@[simp] theorem ev_dunX (c : Nat) (fm : FM) (ma mb : EM PV) (ρ : Ev) : dunX c fm ma mb ρ = callE fm (argsX c ma mb) ρ := (rfl)
@[simp] theorem okY_obj (c d : Nat) (fs : List (Str × PV)) : okY c (.obj d fs) = (d == c) := (rfl)

/-! ### methods of a list that was just made -/
def tmpM (g : List PV → List PV → Option (PV × List PV)) (mo : EM MO) (ms : EM (List AV)) : EM PV := fun ρ => (mo ρ).bind fun m ρ1 => match m with
  | .lst xs => (ms ρ1).bind fun as ρ2 => match vals as with
    | some args => (match g xs args with
      | some (z, _) => .ok z ρ2
      | none => .stuck)
    | none => .stuck
  | _ => .stuck
theorem tmp_le {r : V → List V → Hp → VK → Prop} {g : List PV → List PV → Option (PV × List PV)} (sn : SnM D r g) (σ : St) (H : Hp) (Q : VK) (h : tE D W (tmpM g mo ms) σ H Q) : tBM D.K "list" r (tN D W mo) (tA D W ms) σ H Q := by
  obtain ⟨G, ρ, A, k⟩ := h
  refine ⟨G, ρ, A, ?_⟩
  unfold tmpM at k
  cases q : mo ρ with
  | stuck => rw [q] at k; exact k
  | exc ex ρ' => rw [q] at k; exact k
  | ok m ρ1 =>
    rw [q, Out.bind_ok] at k
    intro G1 H1 n1 ad ga ha rm no
    cases m with
    | dct _ => exact False.elim k
    | obj _ _ => exact False.elim k
    | lst xs =>
      obtain ⟨vs, hv, rs⟩ := rm
      refine ⟨.inl ⟨rfl, vs, .inl (.inl hv)⟩, G1, ρ1, n1.abs, ?_⟩
      dsimp only at k
      cases q2 : ms ρ1 with
      | stuck => rw [q2] at k; exact k
      | exc ex ρ' => rw [q2] at k; exact fun G' H' c d n2 => k G' H' c d (n1.trans n2)
      | ok as ρ2 =>
        rw [q2, Out.bind_ok] at k
        intro G2 H2 n2 ws rws
        split at k
        · rename_i args ea
          split at k
          · rename_i z ys eg
            have h2 : H2 ad = some (.lst vs) := n2.k ad _ hv no
            have g2 : G2 ad = none := by
              cases qg : G2 ad with
              | none => rfl
              | some u =>
                rcases n2.f ad u qg with y | y | y
                · rw [ga] at y; cases y
                · rw [hv] at y; cases y
                · exact absurd y.ow no
            have no2 : ¬ Ow σ ρ2 ad := fun w => by
              rcases n2.w ad w with y | y
              · exact no y
              · rw [hv] at y; cases y
            exact sn G2 H2 ad vs xs args ws z ys Q n2.abs.le h2 (rs.mono n2.leg) (vals_rep rws ea) eg fun vs' v r1 r2 => k G2 _ (nx_new (n1.trans n2) ha g2 no2) v r2
          · exact False.elim k
        · exact False.elim k
theorem re_tm {name : Str} {id : String} {r : V → List V → Hp → VK → Prop} {g : List PV → List PV → Option (PV × List PV)} (slot : PySem.Slot "list" name id) (hty : typeOf (.builtin id) = pure (.type "method_descriptor")) (hm : MtR X id r) (sn : SnM D r g) (hK : D.K = X.K)
    (ho : RN D W X o mo) (ha : RA D W X (e :: es) ms)
    (hbase : attributeBase o name X.env (eval o X.env) = eval o X.env := by rfl)
    (hfew : ((backTo pos (starEach (e :: es) X.env)).all (fun x => !x.1) && (backToKw pos (keywordEach [] X.env)).all (fun x => x.1.isSome) && decide ((e :: es).length + ([] : List Keyword).length + (if ([] : List Keyword).isEmpty then 0 else 1) < 30)) = true := by rfl)
    (hline : (apos.endLine == pos.line) = true := by rfl) (hs : starEach (e :: es) X.env = (false, eval e X.env) :: starEach es X.env := by rfl) (hplain : (backTo pos (starEach es X.env)).any (·.1) = false := by rfl) :
    RE D W X (.Call (.Attribute o name apos) (e :: es) [] pos) (tmpM g mo ms) :=
  (pe_bm PySem.F.plainAttrs_list slot hty hm ho ha hbase hfew hline hs hplain).imp (hK ▸ tmp_le sn)
theorem re_tm0 {name : Str} {id : String} {r : V → List V → Hp → VK → Prop} {g : List PV → List PV → Option (PV × List PV)} (slot : PySem.Slot "list" name id) (hty : typeOf (.builtin id) = pure (.type "method_descriptor")) (hm : MtR X id r) (sn : SnM D r g) (hK : D.K = X.K)
    (ho : RN D W X o mo) (hbase : attributeBase o name X.env (eval o X.env) = eval o X.env := by rfl) (hline : (apos.endLine == pos.line) = true := by rfl) :
    RE D W X (.Call (.Attribute o name apos) [] [] pos) (tmpM g mo argNil) :=
  (pe_bm0 PySem.F.plainAttrs_list slot hty hm ho hbase hline).imp fun σ H Q h => by
    obtain ⟨G, ρ, A, k⟩ := (hK ▸ tmp_le sn σ H Q h : tBM X.K "list" r (tN D W mo) (tA D W argNil) σ H Q)
    refine ⟨G, ρ, A, k.mono fun m ρ' G' H' n f ad ga ha rm no => ?_⟩
    obtain ⟨t, G2, ρ2, A2, k2⟩ := f ad ga ha rm no
    exact ⟨t, k2 G2 H' (Nx.refl A2) [] rfl⟩
def tmv (g : List PV → List PV → Option (PV × List PV)) (xs : List PV) : Option (List PV) → Ev → Out PV
  | some args, ρ => lift ((g xs args).map (·.1)) ρ
  | none, _ => .stuck
@[simp] theorem tmv_some (g : List PV → List PV → Option (PV × List PV)) (xs args : List PV) (ρ : Ev) : tmv g xs (some args) ρ = lift ((g xs args).map (·.1)) ρ := (rfl)
def kTm2 (g : List PV → List PV → Option (PV × List PV)) (xs : List PV) : List AV → Ev → Out PV := fun as ρ => tmv g xs (vals as) ρ
@[simp] theorem kTm2_ (g : List PV → List PV → Option (PV × List PV)) (xs : List PV) (as : List AV) (ρ : Ev) : kTm2 g xs as ρ = tmv g xs (vals as) ρ := (rfl)
def kTm1 (g : List PV → List PV → Option (PV × List PV)) (ms : EM (List AV)) : MO → Ev → Out PV
  | .lst xs, ρ => (ms ρ).bind (kTm2 g xs)
  | _, _ => .stuck
@[simp] theorem kTm1_ (g : List PV → List PV → Option (PV × List PV)) (ms : EM (List AV)) (xs : List PV) (ρ : Ev) : kTm1 g ms (.lst xs) ρ = (ms ρ).bind (kTm2 g xs) := (rfl)
@[simp] theorem ev_tmpM (g : List PV → List PV → Option (PV × List PV)) (mo : EM MO) (ms : EM (List AV)) (ρ : Ev) : tmpM g mo ms ρ = (mo ρ).bind (kTm1 g ms) := by
  unfold tmpM
  congr 1
  funext m ρ
  cases m with
  | lst xs =>
    show (ms ρ).bind _ = (ms ρ).bind _
    congr 1
    funext as ρ
    show _ = tmv g xs (vals as) ρ
    cases vals as with
    | none => rfl
    | some args =>
      show _ = lift ((g xs args).map (·.1)) ρ
      dsimp only
      cases g xs args <;> rfl
  | _ => rfl

/-! ### clauses -/
theorem exm_mk {K : PySem.W.Frag} {C : Addr} {t : Value} {b : Bool} (h1 : PySem.W.subIn K (.ref C) (.type "BaseException") = some true) (h2 : PySem.W.isClsIn K C = true) (h3 : PySem.W.typeIn K (.ref C) = some (.type "type")) (h4 : PySem.W.subIn K t (.ref C) = some b) : PySem.W.exmOne K t (.ref C) = some b := by
  have q : ((PySem.W.clsIn K C).isSome && PySem.W.typeIn K (.ref C) == some (.type "type")) = true := by
    rw [h3]
    have : (PySem.W.clsIn K C).isSome = true := h2
    rw [this]
    rfl
  unfold PySem.W.exmOne
  rw [h1]
  show (if (some true == some true) = true then PySem.W.kitCls K t (.ref C) else none) = _
  rw [if_pos (by decide)]
  unfold PySem.W.kitCls
  dsimp only
  rw [if_pos q]
  exact h4
/-! ### sorted texts -/
def leS (a b : Str) : Bool := !decide (b.cps.toList < a.cps.toList)
def insS (x : Str) : List Str → List Str
  | [] => [x]
  | y :: r => if leS x y then x :: y :: r else y :: insS x r
def sortS : List Str → List Str
  | [] => []
  | x :: r => insS x (sortS r)
theorem insS_perm (x : Str) : ∀ l : List Str, (insS x l).Perm (x :: l)
  | [] => .refl _
  | y :: r => by
    rw [insS]
    split
    · exact .refl _
    · exact ((insS_perm x r).cons y).trans (.swap x y r)
theorem sortS_perm : ∀ l : List Str, (sortS l).Perm l
  | [] => .refl _
  | x :: r => (insS_perm x _).trans ((sortS_perm r).cons x)
theorem leS_total (a b : Str) : leS a b = false → leS b a = true := fun h => by
  unfold leS at *
  simp only [Bool.not_eq_false', decide_eq_true_eq, Bool.not_eq_true', decide_eq_false_iff_not] at *
  exact fun z => List.lt_asymm h z
theorem leS_trans {a b c : Str} (h : leS a b = true) (k : leS b c = true) : leS a c = true := by
  unfold leS at *
  simp only [Bool.not_eq_true', decide_eq_false_iff_not, List.not_lt] at *
  exact List.le_trans h k
theorem leS_anti {a b : Str} (h : leS a b = true) (k : leS b a = true) : a = b := by
  unfold leS at *
  simp only [Bool.not_eq_true', decide_eq_false_iff_not, List.not_lt] at *
  exact L_inj (List.le_antisymm h k)
theorem insS_sorted (x : Str) : ∀ {l : List Str}, l.Pairwise (fun a b => leS a b = true) → (insS x l).Pairwise (fun a b => leS a b = true)
  | [], _ => List.pairwise_singleton _ _
  | y :: r, h => by
    rw [insS]
    obtain ⟨h1, h2⟩ := List.pairwise_cons.mp h
    split
    · rename_i hx
      refine List.pairwise_cons.mpr ⟨fun z hz => ?_, h⟩
      rcases List.mem_cons.mp hz with rfl | hz
      · exact hx
      · exact leS_trans hx (h1 z hz)
    · rename_i hx
      refine List.pairwise_cons.mpr ⟨fun z hz => ?_, insS_sorted x h2⟩
      rcases List.mem_cons.mp ((insS_perm x r).mem_iff.mp hz) with rfl | hz
      · exact leS_total _ _ (Bool.eq_false_iff.mpr hx)
      · exact h1 z hz
theorem sortS_sorted : ∀ l : List Str, (sortS l).Pairwise (fun a b => leS a b = true)
  | [] => .nil
  | x :: r => insS_sorted x (sortS_sorted r)
theorem ltCps_dec : ∀ a b : List Nat, ltCps a b = decide (a < b)
  | [], [] => by rfl
  | [], _ :: _ => by rfl
  | _ :: _, [] => by rfl
  | a :: as, b :: bs => by
    rw [ltCps, ltCps_dec as bs, Bool.eq_iff_iff]
    simp [List.cons_lt_cons_iff]
theorem risingS_iff : ∀ (l : List Str) (p : Str), PyProof.Rows.risingS p l = true → (p :: l).Pairwise (fun a b => leS a b = true)
  | [], p, _ => List.pairwise_singleton _ _
  | x :: r, p, h => by
    rw [PyProof.Rows.risingS, Bool.and_eq_true] at h
    have h2 := risingS_iff r x h.2
    have h1 : leS p x = true := by
      unfold leS
      rw [← ltCps_dec]
      exact h.1
    refine List.pairwise_cons.mpr ⟨fun z hz => ?_, h2⟩
    rcases List.mem_cons.mp hz with rfl | hz
    · exact h1
    · exact leS_trans h1 ((List.pairwise_cons.mp h2).1 z hz)
theorem sorted_unique {ys xs : List Str} (hp : ys.Perm xs) (hs : PyProof.Rows.sortedS ys = true) : ys = sortS xs := by
  have h1 : ys.Pairwise (fun a b => leS a b = true) := by
    cases ys with
    | nil => exact .nil
    | cons y r => exact risingS_iff r y hs
  exact (hp.trans (sortS_perm xs).symm).eq_of_pairwise (fun a b _ _ h k => leS_anti h k) h1 (sortS_sorted xs)
def bSorted : List PV → Option PV
  | [.lst xs] => (strsOf xs).bind fun ss => if ss.length < 64 then some (.lst ((sortS ss).map .str)) else none
  | _ => none
theorem strsL_rep : ∀ {xs : List PV} {ss : List Str} {vs : List V}, strsOf xs = some ss → Reps D G xs vs → vs = ss.map V.str
  | [], _, _, e, r => by cases e; rw [show _ = [] from r]; rfl
  | x :: xs, ss, _, e, r => by
    obtain ⟨v, vs, rfl, r1, r2⟩ := r
    cases x with
    | str s =>
      rw [strsOf] at e
      cases h : strsOf xs with
      | none => rw [h] at e; cases e
      | some ts =>
        rw [h] at e
        cases e
        rw [strsL_rep h r2, show v = V.str s from r1]
        rfl
    | _ => cases e
theorem reps_strs (G : Hp) : ∀ ss : List Str, Reps D G (ss.map .str) (ss.map V.str)
  | [] => rfl
  | s :: ss => ⟨_, _, rfl, rfl, reps_strs G ss⟩
theorem sn_sorted : SnC D (rSortedS D.K) bSorted := by
  intro G H xs z vs Q le rs e q
  unfold bSorted at e
  split at e
  · rename_i xs
    obtain ⟨v, rfl, r⟩ := one_h rs
    obtain ⟨ss, h1, h2⟩ := Option.bind_eq_some_iff.mp e
    split at h2
    · rename_i hl
      cases h2
      obtain ⟨ad, vs, rfl, hq, r2⟩ := r
      refine ⟨ad, ss, rfl, (strsL_rep h1 r2) ▸ hq, hl, fun ys p hp hs hn => ?_⟩
      rw [sorted_unique hp hs]
      have gr := Grow.new (o := .lst ((sortS ss).map V.str)) le hn
      exact q _ _ _ gr ⟨p, _, rfl, .inl (.inl upd_same), reps_strs _ _⟩
    · cases h2
  · cases e
theorem re_sorted (hK : D.K = X.K) (hg : Gl X "sorted") (hm : X.mg "sorted" = none) (ha : RA D W X (e :: es) ms)
    (he : starEach (e :: es) X.env = (false, eval e X.env) :: starEach es X.env := by rfl) (hpl : (backTo p2 (starEach es X.env)).any (·.1) = false := by rfl) : RE D W X (.Call (.Name "sorted" p) (e :: es) [] p2) (callB bSorted ms) :=
  re_callB cr_sortedS (hK ▸ sn_sorted) hg hm PyProof.Rows.boot_sorted ha (by decide) (by decide) he hpl
@[simp] theorem sorted_lst (ss : List Str) : bSorted [.lst (ss.map .str)] = if ss.length < 64 then some (.lst ((sortS ss).map .str)) else none := by
  show (strsOf (ss.map .str)).bind _ = _
  rw [strsOf_map]
  rfl
end
end TR

set_option Elab.async false
set_option linter.all false
set_option maxRecDepth 100000
/-! TRZH: == and in of nested plain data. -/
namespace TR
open PySem PySem.Spec L2
set_option autoImplicit false
mutual
/-- plain data with real texts, at most n deep -/
def Dat : Nat → PV → Prop
  | _, .non => True
  | _, .bl _ => True
  | _, .int _ => True
  | _, .str s => Uni s
  | n + 1, .lst xs => Dats n xs
  | n + 1, .tup xs => Dats n xs
  | _, _ => False
def Dats : Nat → List PV → Prop
  | _, [] => True
  | n, x :: xs => Dat n x ∧ Dats n xs
end
mutual
def eqP : PV → PV → Bool
  | .non, .non => true
  | .bl a, .bl b => a == b
  | .bl a, .int j => (if a then 1 else 0) == j
  | .int i, .bl b => i == (if b then 1 else 0)
  | .int i, .int j => i == j
  | .str x, .str y => x == y
  | .lst xs, .lst ys => eqPs xs ys
  | .tup xs, .tup ys => eqPs xs ys
  | _, _ => false
def eqPs : List PV → List PV → Bool
  | [], [] => true
  | x :: xs, y :: ys => eqP x y && eqPs xs ys
  | _, _ => false
end
mutual
theorem dat_toD : ∀ (n : Nat) (x : PV), Dat n x → ∃ d, x.toD = some d ∧ d.canLay0 = true ∧ d.depth ≤ n
  | n, .non, _ => ⟨.none, rfl, rfl, by simp [PyData.depth]⟩
  | n, .bl _, _ => ⟨.bool _, rfl, rfl, by simp [PyData.depth]⟩
  | n, .int _, _ => ⟨.int _, rfl, rfl, by simp [PyData.depth]⟩
  | n, .str s, h => ⟨.str s, rfl, uni_ok (by cases n <;> exact h), by simp [PyData.depth]⟩
  | n + 1, .lst xs, h => by
    obtain ⟨ds, e, k, l⟩ := dats_toD n xs h
    exact ⟨.list ds, by rw [PV.toD, e]; rfl, by rw [PyData.canLay0]; exact k, by rw [PyData.depth]; omega⟩
  | n + 1, .tup xs, h => by
    obtain ⟨ds, e, k, l⟩ := dats_toD n xs h
    exact ⟨.tuple ds, by rw [PV.toD, e]; rfl, by rw [PyData.canLay0]; exact k, by rw [PyData.depth]; omega⟩
  | 0, .lst _, h => h.elim
  | 0, .tup _, h => h.elim
  | 0, .dct _, h => h.elim
  | n + 1, .dct _, h => h.elim
  | 0, .obj _ _, h => h.elim
  | n + 1, .obj _ _, h => h.elim
theorem dats_toD : ∀ (n : Nat) (xs : List PV), Dats n xs → ∃ ds, toDs xs = some ds ∧ PyData.canLayAll0 ds = true ∧ PyData.depthAll ds ≤ n
  | n, [], _ => ⟨[], rfl, rfl, by simp [PyData.depthAll]⟩
  | n, x :: xs, h => by
    rw [Dats] at h
    obtain ⟨d, e1, k1, l1⟩ := dat_toD n x h.1
    obtain ⟨ds, e2, k2, l2⟩ := dats_toD n xs h.2
    refine ⟨d :: ds, by rw [toDs, e1, e2], ?_, ?_⟩
    · rw [PyData.canLayAll0, k1, k2]; rfl
    · rw [PyData.depthAll]; omega
end
mutual
theorem eqv_eqP : ∀ (x y : PV) (d e : PyData), x.toD = some d → y.toD = some e → PyData.eqv d e = eqP x y
  | x, y, d, e, hx, hy => by
    cases x with
    | lst xs =>
      rw [PV.toD] at hx
      cases h1 : toDs xs with
      | none => rw [h1] at hx; cases hx
      | some ds =>
        rw [h1] at hx; cases hx
        cases y with
        | lst ys =>
          rw [PV.toD] at hy
          cases h2 : toDs ys with
          | none => rw [h2] at hy; cases hy
          | some es =>
            rw [h2] at hy; cases hy
            rw [PyData.eqv, eqP]
            exact eqvs_eqPs xs ys ds es h1 h2
        | tup ys =>
          rw [PV.toD] at hy
          cases h2 : toDs ys with
          | none => rw [h2] at hy; cases hy
          | some es => rw [h2] at hy; cases hy; simp [PyData.eqv, eqP]
        | dct _ => cases hy
        | obj _ _ => cases hy
        | _ => cases hy; simp [PyData.eqv, eqP]
    | tup xs =>
      rw [PV.toD] at hx
      cases h1 : toDs xs with
      | none => rw [h1] at hx; cases hx
      | some ds =>
        rw [h1] at hx; cases hx
        cases y with
        | tup ys =>
          rw [PV.toD] at hy
          cases h2 : toDs ys with
          | none => rw [h2] at hy; cases hy
          | some es =>
            rw [h2] at hy; cases hy
            rw [PyData.eqv, eqP]
            exact eqvs_eqPs xs ys ds es h1 h2
        | lst ys =>
          rw [PV.toD] at hy
          cases h2 : toDs ys with
          | none => rw [h2] at hy; cases hy
          | some es => rw [h2] at hy; cases hy; simp [PyData.eqv, eqP]
        | dct _ => cases hy
        | obj _ _ => cases hy
        | _ => cases hy; simp [PyData.eqv, eqP]
    | dct _ => cases hx
    | obj _ _ => cases hx
    | _ =>
      cases hx
      cases y with
      | lst ys =>
        rw [PV.toD] at hy
        cases h2 : toDs ys with
        | none => rw [h2] at hy; cases hy
        | some es => rw [h2] at hy; cases hy; simp [PyData.eqv, eqP]
      | tup ys =>
        rw [PV.toD] at hy
        cases h2 : toDs ys with
        | none => rw [h2] at hy; cases hy
        | some es => rw [h2] at hy; cases hy; simp [PyData.eqv, eqP]
      | dct _ => cases hy
      | obj _ _ => cases hy
      | _ => cases hy; simp [PyData.eqv, eqP]
  termination_by x => sizeOf x
theorem eqvs_eqPs : ∀ (xs ys : List PV) (ds es : List PyData), toDs xs = some ds → toDs ys = some es → PyData.eqvAll ds es = eqPs xs ys
  | [], [], ds, es, hx, hy => by cases hx; cases hy; simp [PyData.eqvAll, eqPs]
  | [], y :: ys, ds, es, hx, hy => by
    cases hx
    rw [toDs] at hy
    cases h1 : y.toD with
    | none => rw [h1] at hy; cases hy
    | some e =>
      cases h2 : toDs ys with
      | none => rw [h1, h2] at hy; cases hy
      | some r => rw [h1, h2] at hy; cases hy; simp [PyData.eqvAll, eqPs]
  | x :: xs, [], ds, es, hx, hy => by
    cases hy
    rw [toDs] at hx
    cases h1 : x.toD with
    | none => rw [h1] at hx; cases hx
    | some e =>
      cases h2 : toDs xs with
      | none => rw [h1, h2] at hx; cases hx
      | some r => rw [h1, h2] at hx; cases hx; simp [PyData.eqvAll, eqPs]
  | x :: xs, y :: ys, ds, es, hx, hy => by
    rw [toDs] at hx hy
    cases h1 : x.toD with
    | none => rw [h1] at hx; cases hx
    | some d =>
      cases h2 : toDs xs with
      | none => rw [h1, h2] at hx; cases hx
      | some dr =>
        rw [h1, h2] at hx; cases hx
        cases h3 : y.toD with
        | none => rw [h3] at hy; cases hy
        | some e =>
          cases h4 : toDs ys with
          | none => rw [h3, h4] at hy; cases hy
          | some er =>
            rw [h3, h4] at hy; cases hy
            rw [PyData.eqvAll, eqPs, eqv_eqP x y d e h1 h3, eqvs_eqPs xs ys dr er h2 h4]
  termination_by xs => sizeOf xs
end
theorem dat_some {n : Nat} {x : PV} (h : Dat n x) (hn : n ≤ 64) : ∃ d, x.toD = some d ∧ x.dat = some d := by
  obtain ⟨d, e, k, l⟩ := dat_toD n x h
  refine ⟨d, e, ?_⟩
  have s : SeqAt.shaped d = true := by
    unfold SeqAt.shaped
    rw [Bool.and_eq_true, decide_eq_true_eq]
    exact ⟨k, by omega⟩
  unfold PV.dat
  simp only [e, s, if_true]
theorem scalE_eqP {x y : PV} {k : Bool} (h : scalE x y = some k) : eqP x y = k := by
  unfold scalE at h
  split at h <;> first | (cases h; simp [eqP]; done) | (cases h; simp only [eqP]; exact Bool.beq_eq_decide_eq _ _) | cases h
/-- == of plain data -/
theorem eqQ_dat {n m : Nat} {x y : PV} (hx : Dat n x) (hy : Dat m y) (hn : n ≤ 64) (hm : m ≤ 64) : eqQ x y = some (eqP x y) := by
  unfold eqQ
  cases h : scalE x y with
  | some k => rw [scalE_eqP h]
  | none =>
    obtain ⟨d, e1, e2⟩ := dat_some hx hn
    obtain ⟨e, f1, f2⟩ := dat_some hy hm
    show eqD x y = _
    unfold eqD
    rw [e2, f2]
    show some (PyData.eqv d e) = _
    rw [eqv_eqP x y d e e1 f1]
theorem eq_dat {n m : Nat} {x y : PV} (hx : Dat n x) (hy : Dat m y) (hn : n ≤ 64 := by decide) (hm : m ≤ 64 := by decide) : pyEq x y = some (.bl (eqP x y)) := by
  unfold pyEq; rw [eqQ_dat hx hy hn hm]; rfl
theorem ne_dat {n m : Nat} {x y : PV} (hx : Dat n x) (hy : Dat m y) (hn : n ≤ 64 := by decide) (hm : m ≤ 64 := by decide) : pyNe x y = some (.bl (!eqP x y)) := by
  unfold pyNe; rw [eqQ_dat hx hy hn hm]; rfl
mutual
theorem eqP_refl : ∀ (n : Nat) (x : PV), Dat n x → eqP x x = true
  | n, .non, _ => by simp [eqP]
  | n, .bl _, _ => by simp [eqP]
  | n, .int _, _ => by simp [eqP]
  | n, .str s, h => by simp [eqP]
  | n + 1, .lst xs, h => by rw [eqP]; exact eqPs_refl n xs h
  | n + 1, .tup xs, h => by rw [eqP]; exact eqPs_refl n xs h
  | 0, .lst _, h => h.elim
  | 0, .tup _, h => h.elim
  | 0, .dct _, h => h.elim
  | n + 1, .dct _, h => h.elim
  | 0, .obj _ _, h => h.elim
  | n + 1, .obj _ _, h => h.elim
theorem eqPs_refl : ∀ (n : Nat) (xs : List PV), Dats n xs → eqPs xs xs = true
  | n, [], _ => by simp [eqPs]
  | n, x :: xs, h => by
    rw [Dats] at h
    rw [eqPs, eqP_refl n x h.1, eqPs_refl n xs h.2]
    rfl
end
mutual
theorem Dat.up : ∀ {n m : Nat} {x : PV}, Dat n x → n ≤ m → Dat m x
  | n, m, .non, _, _ => by cases m <;> trivial
  | n, m, .bl _, _, _ => by cases m <;> trivial
  | n, m, .int _, _, _ => by cases m <;> trivial
  | n, m, .str s, h, _ => by
    have h' : Uni s := by cases n <;> exact h
    cases m <;> exact h'
  | n + 1, m + 1, .lst xs, h, l => Dats.up (xs := xs) h (by omega)
  | n + 1, m + 1, .tup xs, h, l => Dats.up (xs := xs) h (by omega)
  | n + 1, 0, .lst xs, h, l => by omega
  | n + 1, 0, .tup xs, h, l => by omega
  | 0, _, .lst _, h, _ => h.elim
  | 0, _, .tup _, h, _ => h.elim
  | 0, _, .dct _, h, _ => h.elim
  | n + 1, _, .dct _, h, _ => h.elim
  | 0, _, .obj _ _, h, _ => h.elim
  | n + 1, _, .obj _ _, h, _ => h.elim
theorem Dats.up : ∀ {n m : Nat} {xs : List PV}, Dats n xs → n ≤ m → Dats m xs
  | n, m, [], _, _ => trivial
  | n, m, x :: xs, h, l => ⟨Dat.up (x := x) h.1 l, Dats.up (xs := xs) h.2 l⟩
end
theorem dats_iff {n : Nat} : ∀ {xs : List PV}, Dats n xs ↔ ∀ x ∈ xs, Dat n x
  | [] => ⟨fun _ x h => (by cases h), fun _ => trivial⟩
  | x :: xs => by
    rw [Dats, dats_iff (xs := xs)]
    constructor
    · rintro ⟨h, k⟩ y hy
      rcases List.mem_cons.mp hy with rfl | hy
      · exact h
      · exact k y hy
    · exact fun h => ⟨h x List.mem_cons_self, fun y hy => h y (List.mem_cons_of_mem _ hy)⟩
theorem dat_tup1 {n : Nat} {xs : List PV} (h : ∀ x ∈ xs, Dat n x) : Dat (n + 1) (.tup xs) := dats_iff.mpr h
theorem dat_lst1 {n : Nat} {xs : List PV} (h : ∀ x ∈ xs, Dat n x) : Dat (n + 1) (.lst xs) := dats_iff.mpr h
@[simp] theorem Dat_str (n : Nat) (s : Str) : Dat n (.str s) = Uni s := by cases n <;> rfl
@[simp] theorem Dat_int (n : Nat) (s : Int) : Dat n (.int s) = True := by cases n <;> rfl
@[simp] theorem Dat_bl (n : Nat) (s : Bool) : Dat n (.bl s) = True := by cases n <;> rfl
@[simp] theorem Dat_non (n : Nat) : Dat n .non = True := by cases n <;> rfl
@[simp] theorem Dat_tup (n : Nat) (xs : List PV) : Dat (n + 1) (.tup xs) = Dats n xs := rfl
@[simp] theorem Dat_lst (n : Nat) (xs : List PV) : Dat (n + 1) (.lst xs) = Dats n xs := rfl
@[simp] theorem Dats_nil (n : Nat) : Dats n [] = True := by rw [Dats]
@[simp] theorem Dats_cons (n : Nat) (x : PV) (xs : List PV) : Dats n (x :: xs) = (Dat n x ∧ Dats n xs) := by rw [Dats]
/-! ### evaluation of == -/
@[simp] theorem eqP_nn : eqP .non .non = true := by simp [eqP]
@[simp] theorem eqP_bb (a b : Bool) : eqP (.bl a) (.bl b) = (a == b) := by simp [eqP]
@[simp] theorem eqP_ii (i j : Int) : eqP (.int i) (.int j) = (i == j) := by simp [eqP]
@[simp] theorem eqP_ss (x y : Str) : eqP (.str x) (.str y) = decide (x = y) := by simp only [eqP]; exact Bool.beq_eq_decide_eq _ _
@[simp] theorem eqP_ll (xs ys : List PV) : eqP (.lst xs) (.lst ys) = eqPs xs ys := by simp [eqP]
@[simp] theorem eqP_tt (xs ys : List PV) : eqP (.tup xs) (.tup ys) = eqPs xs ys := by simp [eqP]
@[simp] theorem eqP_sn (x : Str) : eqP (.str x) .non = false := by simp [eqP]
@[simp] theorem eqP_ns (x : Str) : eqP .non (.str x) = false := by simp [eqP]
@[simp] theorem eqP_in (x : Int) : eqP (.int x) .non = false := by simp [eqP]
@[simp] theorem eqP_ni (x : Int) : eqP .non (.int x) = false := by simp [eqP]
@[simp] theorem eqP_is (x : Int) (y : Str) : eqP (.int x) (.str y) = false := by simp [eqP]
@[simp] theorem eqP_si (x : Int) (y : Str) : eqP (.str y) (.int x) = false := by simp [eqP]
@[simp] theorem eqP_bn (x : Bool) : eqP (.bl x) .non = false := by simp [eqP]
@[simp] theorem eqP_nb (x : Bool) : eqP .non (.bl x) = false := by simp [eqP]
@[simp] theorem eqP_bs (x : Bool) (y : Str) : eqP (.bl x) (.str y) = false := by simp [eqP]
@[simp] theorem eqP_sb (x : Bool) (y : Str) : eqP (.str y) (.bl x) = false := by simp [eqP]
@[simp] theorem eqPs_nil : eqPs [] [] = true := by simp [eqPs]
@[simp] theorem eqPs_cons (x y : PV) (xs ys : List PV) : eqPs (x :: xs) (y :: ys) = (eqP x y && eqPs xs ys) := by simp [eqPs]
@[simp] theorem eqPs_cn (x : PV) (xs : List PV) : eqPs (x :: xs) [] = false := by simp [eqPs]
@[simp] theorem eqPs_nc (x : PV) (xs : List PV) : eqPs [] (x :: xs) = false := by simp [eqPs]
/-- in, of plain data -/
theorem any_eqP : ∀ (xs : List PV) (ds : List PyData) (x : PV) (d : PyData), toDs xs = some ds → x.toD = some d → (ds.any fun z => PyData.eqv z d) = xs.any fun z => eqP z x
  | [], ds, x, d, h, _ => by cases h; rfl
  | y :: ys, ds, x, d, h, hx => by
    rw [toDs] at h
    cases h1 : y.toD with
    | none => rw [h1] at h; cases h
    | some e =>
      cases h2 : toDs ys with
      | none => rw [h1, h2] at h; cases h
      | some er =>
        rw [h1, h2] at h; cases h
        rw [List.any_cons, List.any_cons, any_eqP ys er x d h2 hx, eqv_eqP y x e d h1 hx]
theorem inL_dat {n m : Nat} {x : PV} {xs : List PV} (hx : Dat n x) (hy : Dats m xs) (hn : n ≤ 64 := by decide) (hm : m ≤ 63 := by decide) : inQ x (.lst xs) = some (xs.any fun z => eqP z x) := by
  obtain ⟨d, e1, e2⟩ := dat_some hx hn
  obtain ⟨ds, h1, h2, h3⟩ := dats_toD m xs hy
  obtain ⟨e, f1, f2⟩ := dat_some (n := m + 1) (x := .lst xs) hy (by omega)
  have f1' : (PV.lst xs).toD = some (.list ds) := by rw [PV.toD, h1]; rfl
  rw [f1'] at f1
  cases f1
  rw [inQ, e2, f2]
  show some (ds.any fun z => PyData.eqv z d) = _
  rw [any_eqP xs ds x d h1 e1]
theorem inT_dat {n m : Nat} {x : PV} {xs : List PV} (hx : Dat n x) (hy : Dats m xs) (hn : n ≤ 64 := by decide) (hm : m ≤ 63 := by decide) : inQ x (.tup xs) = some (xs.any fun z => eqP z x) := by
  obtain ⟨d, e1, e2⟩ := dat_some hx hn
  obtain ⟨ds, h1, h2, h3⟩ := dats_toD m xs hy
  obtain ⟨e, f1, f2⟩ := dat_some (n := m + 1) (x := .tup xs) hy (by omega)
  have f1' : (PV.tup xs).toD = some (.tuple ds) := by rw [PV.toD, h1]; rfl
  rw [f1'] at f1
  cases f1
  rw [inQ, e2, f2]
  show some (ds.any fun z => PyData.eqv z d) = _
  rw [any_eqP xs ds x d h1 e1]
end TR

set_option Elab.async false
set_option linter.all false
set_option maxRecDepth 100000
/-! TRZI: enumerate of lists and tuples. -/
namespace TR
open PySem PySem.Spec L2
set_option autoImplicit false
section
set_option maxHeartbeats 1000000
/-- enumerate(v), one argument, over anything that begins -/
theorem enum_new1 {v : Value} {o : Obj} {P : Heap → Prop} (B : Begins v o P) : Meets (Builtin.«enumerate.__new__» ⟨[.type "enumerate", v], []⟩) (fun _ R s => P s.heap ∧
      R (.ok (.ret (.ref (s.heap.push o).objs.size))) { s with heap := (s.heap.push o).push { cls := .type "enumerate", data := .fields #[.none, .bool false, .ref s.heap.objs.size, rawInt 0, .none, .none] } }) :=
  .of_wp fun prog w A R s h => by
    obtain ⟨hp, g, d, tk, os⟩ := s
    obtain ⟨h1, h⟩ := h
    have hs := sub_enumerate
    have it : ∀ {A' : Around} {E : Value → Shared → Prop} {Q : Value → Shared → Prop}, Q (.ref hp.objs.size) ⟨hp.push o, g, d, tk, os⟩ → wpAny (model prog w) A' (pyIter v) Q E ⟨hp, g, d, tk, os⟩ := fun q => B.iter prog w _ _ ⟨hp, g, d, tk, os⟩ _ h1 q
    wp_walk using it
    refine wpAny_stack_any fun st => wpAny_pure ?_
    split
    · rename_i c _ _ _ _ _
      cases (c == Value.type "enumerate") <;>
      · wp_walk using it
        exact ⟨_, rfl, h⟩
    · wp_walk using it
      exact ⟨_, rfl, h⟩
theorem enum_call1 {prog : Program} {w : World} {A : Around} {E : Value → Shared → Prop} {s : Shared} {v : Value} {o : Obj} {P : Heap → Prop} {Q : Value → Shared → Prop} (B : Begins v o P) (h1 : P s.heap)
    (h : ∀ h', IsEnum h' (s.heap.objs.size + 1) s.heap.objs.size 0 .none → h'.get? s.heap.objs.size = some o → (∀ b o, s.heap.get? b = some o → h'.get? b = some o) → Q (.ref (s.heap.objs.size + 1)) { s with heap := h' }) :
    wpAny (model prog w) A (call (.type "enumerate") [v]) Q E s := by
  have sz : (s.heap.push o).objs.size = s.heap.objs.size + 1 := Heap.size_push ..
  refine callType_new F.called_enumerate (by decide) (F.typeCall_enumerate_1 _) (F.newCall_enumerate_1 _) (fun obj => F.args_object_init_2 obj _) F.entry_enumerate_new (enum_new1 B) ⟨h1, ?_⟩
  show _ ∧ _
  rw [sz]
  have he : IsEnum ((s.heap.push o).push { cls := .type "enumerate", data := .fields #[.none, .bool false, .ref s.heap.objs.size, rawInt 0, .none, .none] }) (s.heap.objs.size + 1) s.heap.objs.size 0 .none := by
    have := Heap.get?_push_size (s.heap.push o) (o := { cls := .type "enumerate", data := .fields #[.none, .bool false, .ref s.heap.objs.size, rawInt 0, .none, .none] }) rfl
    rw [sz] at this
    exact this
  exact ⟨⟨_, he, rfl⟩, h _ he (Heap.get?_push_of_some _ (Heap.get?_push_size _ B.free)) fun b o x => Heap.get?_push_of_some _ (Heap.get?_push_of_some _ x)⟩
end
/-- the tuple at a, its items in new pairs -/
def Iten (K : PySem.W.Frag) (a : Addr) : It :=
  ⟨fun i H => ∃ (xs : List V) (x : V), SqT K H a xs ∧ xs[i]? = some x, fun i H v H' => ∃ T x, v = .ref T ∧ H T = none ∧ H' = upd H T (.tup [.int (i : Nat), x]) ∧ ∀ xs, SqT K H a xs → xs[i]? = some x, fun i H => ∃ xs : List V, SqT K H a xs ∧ xs.length ≤ i⟩
theorem turn_en {P : Program} {w : World} {K : PySem.W.Frag} {elts : List Expr} {kk : Nat} {tpos : Pos} (a e it : Addr) :
    Turn P w K (.Tuple elts kk tpos) (Iten K a) [e, it] e (fun i h => (∃ old, IsEnum h e it ((i : Nat) : Int) old) ∧ h.IsTupleIter it a i ∧ e ≠ it ∧ a ≠ it ∧ e ≠ a) where
  mem := by simp
  obj := fun i h st b hb => by
    obtain ⟨⟨old, he⟩, ⟨o, ho, hc, hd⟩, _⟩ := st
    simp only [List.mem_cons, List.not_mem_nil, or_false] at hb
    rcases hb with rfl | rfl
    · exact ⟨_, he, fun v q => nomatch q⟩
    · exact ⟨o, ho, fun v q => by rw [hd] at q; cases q⟩
  keep := fun i h h' st k => by
    obtain ⟨⟨old, he⟩, hi, hne⟩ := st
    exact ⟨⟨old, k e (by simp) _ he⟩, hi.at fun o q => k it (by simp) o q, hne⟩
  item := by
    intro X hP hw hK hc i pins s σ H E I hf st hg
    subst hP hw hK
    obtain ⟨⟨old, he⟩, hit, hne, hai, hea⟩ := st
    obtain ⟨xs, x, hq, hx⟩ := hg
    obtain ⟨its, rv, p, hz⟩ := I.tuple hq
    obtain ⟨u, hu, ru⟩ := rv.get hx
    have el : e < s.heap.objs.size := Heap.lt_size he
    have il : it < s.heap.objs.size := by obtain ⟨_, q, _⟩ := hit; exact Heap.lt_size q
    have lt : i < its.toArray.size := by
      have := (List.getElem?_eq_some_iff.mp hu).1
      simpa using this
    refine wpAny_pyNext_enum_itemD (Draws.tuple (A := X.A.in1) (I.ok.hd hc) it a hai its.toArray) he ⟨hit, p⟩ lt hne (by simp [hne, hea]) fun y h' tk py ho st' hT hsz hk => ?_
    have ey : y = u := by
      rw [List.getElem?_toArray, hu] at py
      exact (Option.some.inj py).symm
    subst ey
    refine ⟨_, rfl, wpAny_letOwnedTupleGo_enum (s := { s with heap := h', toks := tk + 1 }) ho fun h'' he' sb => ?_⟩
    have hT2 : h''.get? s.heap.objs.size = some { cls := .type "tuple", data := .seq #[.int i tk, y] } := (sb.2 _ (Nat.ne_of_gt el)).trans hT
    have new : ObjOk X.prog X.w (upd H s.heap.objs.size (.tup [.int (i : Nat), x])) h'' s.heap.objs.size (.tup [.int (i : Nat), x]) :=
      ⟨by show 2 ≤ sizeLine; decide, [.int i tk, y], .cons ⟨_, rfl⟩ (.cons ru .nil), ⟨_, hT2, rfl, _, rfl⟩⟩
    have I1 : Inv X pins σ (upd H s.heap.objs.size (.tup [.int (i : Nat), x])) { s with heap := h'', toks := tk + 1 } :=
      I.turnedNew (ch := [e, it]) (fun b ob hb q => (sb.2 b (fun z => hb (by simp [z]))).trans (hk b ob (fun z => hb (by simp [z])) (fun z => hb (by simp [z])) q)) hf (Nat.le_refl _) new
    refine ⟨.ref s.heap.objs.size, _, I1, rfl, ⟨_, x, rfl, I.hok.fresh (Nat.le_refl _), rfl, fun ys hy => by rw [I.tuple_inj hy hq]; exact hx⟩, ⟨⟨y, ?_⟩, st'.1.at fun o q => (sb.2 it (Ne.symm hne)).trans q, hne, hai, hea⟩, fun b hb => ?_⟩
    · rw [show ((i + 1 : Nat) : Int) = (i : Int) + 1 by omega]
      exact he'
    · have hb' : b < s.heap.objs.size := by
        simp only [List.mem_cons, List.not_mem_nil, or_false] at hb
        rcases hb with rfl | rfl <;> assumption
      rw [upd_ne (Nat.ne_of_lt hb')]
      exact (hf b hb).1
  done := by
    intro X hP hw hK hc i pins s σ H E I hf st hg
    subst hP hw hK
    obtain ⟨⟨old, he⟩, hit, hne, hai, hea⟩ := st
    obtain ⟨xs, hq, hx⟩ := hg
    obtain ⟨its, rv, p, hz⟩ := I.tuple hq
    obtain ⟨f0, f1, f2, f3, f4, f5⟩ := hf it (by simp)
    have hl := rv.length
    have D := Draws.tuple (prog := X.prog) (w := X.w) (A := X.A.in1) (I.ok.hd hc) it a hai its.toArray
    unfold PySem.pyNext
    have hT : s.TypeIs (.ref e) "enumerate" := ⟨_, he, rfl⟩
    refine wpAny_bind (wpAny_attempt (wpAny_callSpecial?_slot (name := Str.ofString "__next__") hT F.slot_enumerate_next (wpAny_call_entry F.slot_enumerate_next hT F.entry_enumerate_next ?_ (F.args_enumerate_next_1 _))))
    show wpAny _ _ (field (.ref e) 2 >>= _) _ _ _
    refine wpAny_bind (wpAny_field he rfl (x := .ref it) rfl ?_)
    refine wpAny_bind (wpAny_nextOf_tuple_end (I.ok.hd hc) hit (show s.heap.IsTuple a its.toArray from p) (by simp; omega) fun h' ex hb hs => ?_)
    obtain ⟨o, ho, hcl⟩ := hs
    exact wpAny_bind (wpAny_isInstance (T := "StopIteration") (b := true) ⟨o, ho, hcl⟩ isSubtype_stop (wpAny_pure ⟨rfl, I.turned (t' := s.toks) (fun b o hne q => hb b o hne q) f0 f1 f3 f4 f5⟩))
  self := fun A i s Q E st h => by
    obtain ⟨⟨_, he⟩, _⟩ := st
    exact wpAny_pyIter_enum he h
def iEn (K : PySem.W.Frag) (ta : TA) : TI := fun σ H R => ta σ H fun vs H1 => ∃ a xs, vs = [.ref a] ∧ ((SqL K H1 a xs ∧ R (Ite K a) H1) ∨ (SqT K H1 a xs ∧ R (Iten K a) H1))
theorem pi_en {X : Cx} {e : Expr} {ta : TA} {p pos tpos : Pos} {elts : List Expr} {kk : Nat} (hg : Gl X "enumerate") (hm : X.mg "enumerate" = none) (ha : PA X [e] ta) (hs : starEach [e] X.env = [(false, eval e X.env)] := by rfl) :
    PI X (.Tuple elts kk tpos) (.Call (.Name "enumerate" p) [e] [] pos) (iEn X.K ta) := ⟨fun pins s σ H R I h => by
  refine PyProof.Rows.Call_ (ld_blt I hg hm PyProof.Rows.boot_enumerate (PyProof.Rows.callWith_type1 (thn (ha.run pos pins s σ H _ I h) fun us s1 hy => ?_) hs rfl))
  obtain ⟨vs, H1, I1, r1, a, xs, ex, q⟩ := hy
  subst ex
  cases r1 with
  | cons r rr =>
    cases rr
    cases r
    have fresh : ∀ b, b = s1.heap.objs.size + 1 ∨ b = s1.heap.objs.size → s1.heap.objs.size ≤ b := fun b z => by omega
    rcases q with ⟨hq, q⟩ | ⟨hq, q⟩
    · obtain ⟨its, rv, p', hz⟩ := I1.list hq
      refine call_enumerate_list p'.isList fun h' he hit hsz hk => wpAny_pyIter_enum he ?_
      have I2 : Inv X pins σ H1 { s1 with heap := h' } := I1.kept (t' := s1.toks) hk
      refine ⟨s1.heap.objs.size + 1, [s1.heap.objs.size + 1, s1.heap.objs.size], _, _, H1, rfl, I2, turn_enum a (s1.heap.objs.size + 1) s1.heap.objs.size, ⟨⟨.none, he⟩, hit, Nat.succ_ne_self _⟩, fun b hb => ?_, q⟩
      have le := fresh b (by simpa using hb)
      exact I1.fpOk le (I1.hok.fresh le)
    · obtain ⟨its, rv, p', hz⟩ := I1.tuple hq
      have la : a < s1.heap.objs.size := by
        obtain ⟨o, ho, _⟩ := id p'
        exact Heap.lt_size ho
      refine enum_call1 (begins_tuple a its.toArray) p' fun h' he hit hk => wpAny_pyIter_enum he ?_
      have I2 : Inv X pins σ H1 { s1 with heap := h' } := I1.kept (t' := s1.toks) hk
      refine ⟨s1.heap.objs.size + 1, [s1.heap.objs.size + 1, s1.heap.objs.size], _, _, H1, rfl, I2, turn_en a (s1.heap.objs.size + 1) s1.heap.objs.size, ⟨⟨.none, he⟩, ⟨_, hit, rfl, rfl⟩, Nat.succ_ne_self _, Nat.ne_of_lt la, Nat.ne_of_gt (Nat.lt_succ_of_lt la)⟩, fun b hb => ?_, q⟩
      have le := fresh b (by simpa using hb)
      exact I1.fpOk le (I1.hok.fresh le)⟩
section
variable {D : Wd} {W : WX} {X : Cx} {e : Expr} {m : EM PV} {p pos tpos : Pos} {elts : List Expr} {kk : Nat}
def enumP : Nat → List PV → List PV
  | _, [] => []
  | i, x :: xs => .tup [.int (i : Nat), x] :: enumP (i + 1) xs
theorem enumP_len : ∀ (i : Nat) (xs : List PV), (enumP i xs).length = xs.length
  | _, [] => rfl
  | i, x :: xs => by rw [enumP, List.length_cons, List.length_cons, enumP_len]
theorem enumP_get : ∀ (j : Nat) (xs : List PV) (i : Nat) {x : PV}, xs[i]? = some x → (enumP j xs)[i]? = some (.tup [.int ((j + i : Nat) : Int), x])
  | _, [], i, _, h => by simp at h
  | j, y :: ys, 0, x, h => by simp at h; subst h; simp [enumP]
  | j, y :: ys, i + 1, x, h => by
    rw [enumP, List.getElem?_cons_succ, enumP_get (j + 1) ys i (by simpa using h)]
    rw [show j + 1 + i = j + (i + 1) by omega]
theorem jen {G0 G H : Hp} {xs : List PV} {w : V} {i : Nat} {T : Addr} {x : PV} (le : LeG G H) (hx : xs[i]? = some x) (r : Rep D G x w) (hT : H T = none) : ∃ G' y, (enumP 0 xs)[i]? = some y ∧ Grow G H G' (upd H T (.tup [.int (i : Nat), w])) ∧ Rep D G' y (.ref T) := by
  have gr := Grow.new (o := .tup [.int (i : Nat), w]) le hT
  refine ⟨_, _, enumP_get 0 xs i hx, gr, T, _, rfl, .inl (.inl upd_same), ?_⟩
  rw [Nat.zero_add]
  exact ⟨_, _, rfl, rfl, _, _, rfl, r.mono gr.leg, rfl⟩
theorem j_enL {G0 : Hp} {ad : Addr} {xs : List PV} {ws : List V} (s : SqL D.K G0 ad ws) (r : Reps D G0 xs ws) : JOk D G0 (Ite D.K ad) (enumP 0 xs) := by
  intro G H g le i
  have s' : SqL D.K H ad ws := sqL_mono le (sqL_mono (LeG.of_same g) s)
  rw [enumP_len]
  refine ⟨fun hi => ?_, fun hi => ⟨ws, s', by rw [r.length]; exact hi⟩⟩
  have hx := List.getElem?_eq_getElem hi
  obtain ⟨w, e1, e2⟩ := r.get hx
  refine ⟨⟨ws, w, s', e1⟩, fun v H' y => ?_⟩
  obtain ⟨T, w2, rfl, hT, rfl, hw⟩ := y
  have := hw ws s'
  rw [e1] at this; cases this
  exact jen (G0 := G0) le hx (e2.mono (LeG.of_same g)) hT
theorem j_enT {G0 : Hp} {ad : Addr} {xs : List PV} {ws : List V} (s : SqT D.K G0 ad ws) (r : Reps D G0 xs ws) : JOk D G0 (Iten D.K ad) (enumP 0 xs) := by
  intro G H g le i
  have s' : SqT D.K H ad ws := sqT_mono le (sqT_mono (LeG.of_same g) s)
  rw [enumP_len]
  refine ⟨fun hi => ?_, fun hi => ⟨ws, s', by rw [r.length]; exact hi⟩⟩
  have hx := List.getElem?_eq_getElem hi
  obtain ⟨w, e1, e2⟩ := r.get hx
  refine ⟨⟨ws, w, s', e1⟩, fun v H' y => ?_⟩
  obtain ⟨T, w2, rfl, hT, rfl, hw⟩ := y
  have := hw ws s'
  rw [e1] at this; cases this
  exact jen (G0 := G0) le hx (e2.mono (LeG.of_same g)) hT
def kEn : PV → Ev → Out (List PV)
  | .lst xs, ρ => .ok (enumP 0 xs) ρ
  | .tup xs, ρ => .ok (enumP 0 xs) ρ
  | _, _ => .stuck
@[simp] theorem kEn_lst (xs : List PV) (ρ : Ev) : kEn (.lst xs) ρ = .ok (enumP 0 xs) ρ := (rfl)
@[simp] theorem kEn_tup (xs : List PV) (ρ : Ev) : kEn (.tup xs) ρ = .ok (enumP 0 xs) ρ := (rfl)
def itEn (m : EM PV) : EM (List PV) := fun ρ => (m ρ).bind kEn
@[simp] theorem ev_itEn (m : EM PV) (ρ : Ev) : itEn m ρ = (m ρ).bind kEn := (rfl)
theorem ri_en (hK : D.K = X.K) (hm : X.mg "enumerate" = none) (h : RE D W X e m) (hg : Gl X "enumerate" := by rfl) (hs : starEach [e] X.env = [(false, eval e X.env)] := by rfl) : RI D W X (.Tuple elts kk tpos) (.Call (.Name "enumerate" p) [e] [] pos) (itEn m) :=
  (pi_en hg hm (pa_cons h pa_nil hs) hs).imp fun σ H R ⟨G, ρ, A, k⟩ => ⟨G, ρ, A, (Kg.bind k).mono fun x ρ1 G1 H1 n1 k1 v rv => by
    cases x with
    | lst xs =>
      obtain ⟨ad, ws, rfl, s, r⟩ := rv
      exact ⟨ad, ws, rfl, .inl ⟨hK ▸ sqL_mono n1.abs.le s, hK ▸ k1 G1 H1 (Nx.refl n1.abs) _ (j_enL s r)⟩⟩
    | tup xs =>
      obtain ⟨ad, ws, rfl, s, r⟩ := rv
      exact ⟨ad, ws, rfl, .inr ⟨hK ▸ sqT_mono n1.abs.le s, hK ▸ k1 G1 H1 (Nx.refl n1.abs) _ (j_enT s r)⟩⟩
    | _ => exact False.elim k1⟩
end
end TR

set_option Elab.async false
set_option linter.all false
set_option maxRecDepth 100000
/-! TRZJ: dict(d), == of dicts that are the same, == by an own __eq__ of things that are the same. -/
namespace TR
open PySem PySem.Spec L2
set_option autoImplicit false
section
variable {D : Wd} {W : WX} {X : Cx} {a b e o : Expr} {es : List Expr} {pos p p2 : Pos} {m ma mb : EM PV} {G G' H H' : Hp} {k d : Nat}
/-! ### dict(e), a copy -/
def rDcopy : List V → Hp → VK → Prop := fun xs H Q => ∃ a kvs, xs = [.ref a] ∧ Rd H a (.dK kvs) ∧ ∀ p, H p = none → Q (.ref p) (upd H p (.dK kvs))
theorem call_dcopy : CallR X (.type "dict") rDcopy := by
  intro pins s σ H xs us Q I r h
  obtain ⟨a, kvs, rfl, e, q⟩ := h
  cases r with
  | cons r rr =>
    cases rr
    cases r
    exact d_copyOf I e fun p s' hp J => ⟨.ref p, _, J, rfl, q p hp⟩
def kDm : PV → Ev → Out MO
  | .dct kvs, ρ => .ok (.dct kvs) ρ
  | _, _ => .stuck
@[simp] theorem kDm_dct (kvs : List (Key × PV)) (ρ : Ev) : kDm (.dct kvs) ρ = .ok (.dct kvs) ρ := (rfl)
def dictM (m : EM PV) : EM MO := fun ρ => (m ρ).bind kDm
@[simp] theorem ev_dictM (m : EM PV) (ρ : Ev) : dictM m ρ = (m ρ).bind kDm := (rfl)
theorem rn_dict (h : RP D W X e m) (hg : Gl X "dict") (hm : X.mg "dict" = none) (he : starEach [e] X.env = (false, eval e X.env) :: starEach [] X.env := by rfl) (hpl : (backTo p2 (starEach [] X.env)).any (·.1) = false := by rfl) :
    RN D W X (.Call (.Name "dict" p) [e] [] p2) (dictM m) :=
  (pe_callTy call_dcopy hg hm PyProof.Rows.boot_dict (pa_cons h pa_nil he) (by decide) (by decide) he hpl).imp fun σ H Q ⟨G, ρ, A, k⟩ => ⟨G, ρ, A, by
    unfold dictM at k
    cases q : m ρ with
    | stuck => rw [q] at k; exact k
    | exc ex ρ' => rw [q] at k; exact k
    | ok x ρ1 =>
      rw [q] at k
      simp only [Out.bind_ok] at k
      intro G1 H1 n v rv
      cases x with
      | dct xs =>
        obtain ⟨ad, vs, rfl, s, rs⟩ := rv
        exact ⟨ad, vs, rfl, .inl s, fun l hl => new_own (mo := .dct xs) n hl ⟨vs, upd_same, rs⟩ k⟩
      | _ => exact False.elim k⟩
/-! ### the same dict -/
def flatP : PV → Bool
  | .non => true
  | .bl _ => true
  | .int _ => true
  | .str _ => true
  | _ => false
theorem flat_rep {x : PV} {v w : V} (h : flatP x = true) (r : Rep D G x v) (r2 : Rep D G' x w) : v = w ∧ flatB w = true := by
  cases x <;> first | (cases r; cases r2; exact ⟨rfl, rfl⟩) | cases h
theorem same_ws : ∀ {kvs : List (Key × PV)} {ws zs : List (Key × V)}, (∀ p ∈ kvs, flatP p.2 = true) → RepD D G kvs ws → RepD D G' kvs zs → ws = zs ∧ (∀ p ∈ zs, flatB p.2 = true) ∧ zs.map (·.1) = kvs.map (·.1)
  | [], _, _, _, r, r2 => by
    rw [show _ = [] from r, show _ = [] from r2]
    exact ⟨rfl, fun p h => (by cases h), rfl⟩
  | (k, x) :: kvs, _, _, h, r, r2 => by
    obtain ⟨v, t, rfl, r3, r4⟩ := r
    obtain ⟨w, t2, rfl, r5, r6⟩ := r2
    obtain ⟨rfl, fb⟩ := flat_rep (h (k, x) List.mem_cons_self) r3 r5
    obtain ⟨rfl, fs, ks⟩ := same_ws (kvs := kvs) (fun p hp => h p (List.mem_cons_of_mem _ hp)) r4 r6
    refine ⟨rfl, fun p hp => ?_, by rw [List.map_cons, List.map_cons, ks]⟩
    rcases List.mem_cons.mp hp with rfl | hp
    · exact fb
    · exact fs p hp
theorem valV_nodup : ∀ {zs : List (Key × V)}, (zs.map (·.1)).Nodup → ∀ p ∈ zs, valV zs p.1 = some p.2
  | [], _, p, h => by cases h
  | (k, v) :: zs, nd, p, h => by
    rw [List.map_cons, List.nodup_cons] at nd
    unfold valV
    rcases List.mem_cons.mp h with rfl | h
    · simp
    · have hk : ¬ k = p.1 := fun e => by
        have hh := List.mem_map_of_mem (f := (·.1)) h
        rw [← e] at hh
        exact nd.1 hh
      rw [List.find?_cons_of_neg (by simpa using hk)]
      exact valV_nodup nd.2 p h
def SameD (x y : PV) : Prop := ∃ kvs : List (Key × PV), x = .dct kvs ∧ y = .dct kvs ∧ (kvs.map (·.1)).Nodup ∧ ∀ p ∈ kvs, flatP p.2 = true
theorem sameD_rep {x y : PV} {v w : V} (h : SameD x y) (rx : RepH D G H x v) (ry : RepH D G H y w) :
    ∃ a b ks ls, v = .ref a ∧ w = .ref b ∧ H a = some (.dK ks) ∧ H b = some (.dK ls) ∧ ks.length = ls.length ∧ ∀ p ∈ ks, valV ls p.1 = some p.2 ∧ flatB p.2 = true := by
  obtain ⟨kvs, rfl, rfl, nd, fl⟩ := h
  obtain ⟨a, ws, rfl, h1, r1⟩ := rx
  obtain ⟨b, zs, rfl, h2, r2⟩ := ry
  obtain ⟨rfl, fb, ks⟩ := same_ws fl r1 r2
  exact ⟨a, b, _, _, rfl, rfl, h1, h2, rfl, fun p hp => ⟨valV_nodup (by rw [ks]; exact nd) p hp, fb p hp⟩⟩
open Classical in
noncomputable def sameV (x y : PV) (z : PV) : Option PV := if SameD x y then some z else none
def orS : Option PV → Option PV → Option PV
  | some z, _ => some z
  | none, o => o
@[simp] theorem orS_some (z : PV) (o : Option PV) : orS (some z) o = some z := (rfl)
@[simp] theorem orS_none (o : Option PV) : orS none o = o := (rfl)
noncomputable def pyEqX (x y : PV) : Option PV := orS (pyEq x y) (sameV x y (.bl true))
noncomputable def pyNeX (x y : PV) : Option PV := orS (pyNe x y) (sameV x y (.bl false))
@[simp] theorem ev_eqX (x y : PV) : pyEqX x y = orS (pyEq x y) (sameV x y (.bl true)) := (rfl)
@[simp] theorem ev_neX (x y : PV) : pyNeX x y = orS (pyNe x y) (sameV x y (.bl false)) := (rfl)
@[simp] theorem eq_dd (xs ys : List (Key × PV)) : pyEq (.dct xs) (.dct ys) = none := (rfl)
@[simp] theorem ne_dd (xs ys : List (Key × PV)) : pyNe (.dct xs) (.dct ys) = none := (rfl)
theorem sameV_of {kvs : List (Key × PV)} (z : PV) (nd : (kvs.map (·.1)).Nodup) (fl : ∀ p ∈ kvs, flatP p.2 = true) : sameV (.dct kvs) (.dct kvs) z = some z := by
  unfold sameV
  rw [if_pos ⟨kvs, rfl, rfl, nd, fl⟩]
theorem sameV_some {x y z z' : PV} (h : sameV x y z = some z') : z = z' ∧ SameD x y := by
  unfold sameV at h
  split at h
  · rename_i hs; cases h; exact ⟨rfl, hs⟩
  · cases h
def rEqX (K : PySem.W.Frag) : R2 := fun x y H Q => rEqP K x y H Q ∨ rEqDA x y H Q
def rNeX (K : PySem.W.Frag) : R2 := fun x y H Q => rNeP K x y H Q ∨ rNeDA x y H Q
theorem op_eqX (hu : X.A.units + 64 < cLine) : OpR X (compareOp .Eq) (rEqX X.K) := (op_eqP hu).or (op_eq_dictA (by omega))
theorem op_neX (hu : X.A.units + 64 < cLine) : OpR X (compareOp .NotEq) (rNeX X.K) := (op_neP hu).or (op_ne_dictA (by omega))
theorem sn_eqX : Sn2 D (rEqX D.K) pyEqX := by
  intro G H x y z v w Q l rx ry e q
  unfold pyEqX at e
  cases h : pyEq x y with
  | some z' =>
    rw [h] at e
    cases e
    exact .inl (sn_eq G H x y _ v w Q l rx ry h q)
  | none =>
    rw [h] at e
    obtain ⟨rfl, hs⟩ := sameV_some e
    obtain ⟨a, b, ks, ls, h1, h2, h3, h4, h5, h6⟩ := sameD_rep hs rx ry
    exact .inr ⟨a, b, ks, ls, h1, h2, h3, h4, h5, h6, flat2 l (z := .bl _) rfl q⟩
theorem sn_neX : Sn2 D (rNeX D.K) pyNeX := by
  intro G H x y z v w Q l rx ry e q
  unfold pyNeX at e
  cases h : pyNe x y with
  | some z' =>
    rw [h] at e
    cases e
    exact .inl (sn_ne G H x y _ v w Q l rx ry h q)
  | none =>
    rw [h] at e
    obtain ⟨rfl, hs⟩ := sameV_some e
    obtain ⟨a, b, ks, ls, h1, h2, h3, h4, h5, h6⟩ := sameD_rep hs rx ry
    exact .inr ⟨a, b, ks, ls, h1, h2, h3, h4, h5, h6, flat2 l (z := .bl _) rfl q⟩
/-! ### the same, by an own __eq__ -/
/-- things that an own __eq__ (by class: tab) finds equal to themselves, tuples at most d deep -/
def EqO (tab : List (Nat × FM)) : Nat → PV → Prop
  | _, .non => True
  | _, .bl _ => True
  | _, .int _ => True
  | _, .str _ => True
  | _, .obj c fs => ∃ f r, tab.lookup c = some f ∧ f [.val (.obj c fs), .val (.obj c fs)] = .ok (.v (.bl true)) r
  | d + 1, .tup xs => ∀ x ∈ xs, EqO tab d x
  | _, _ => False
def Sm (D : Wd) (tab : List (Nat × FM)) (d : Nat) : Eqv := fun x y H => ∃ G t, LeG G H ∧ EqO tab d t ∧ Rep D G t x ∧ Rep D G t y
theorem mon_sm {tab : List (Nat × FM)} : Mon (Sm D tab d) := fun x y H H' e h => by
  obtain ⟨G, t, le, h, r1, r2⟩ := h
  exact ⟨G, t, fun a u q => e a u (le a u q), h, r1, r2⟩
/-- two instances that stand for one thing -/
def OneO (D : Wd) (c : Nat) (f : FM) : Addr → Addr → Hp → Prop := fun a b H => ∃ G fs r, LeG G H ∧ f [.val (.obj c fs), .val (.obj c fs)] = .ok (.v (.bl true)) r ∧ Rep D G (.obj c fs) (.ref a) ∧ Rep D G (.obj c fs) (.ref b)
theorem sp_one {c : Nat} {f : FM} {vs : List V} {H : Hp} {Q : VK} {E : XK} (h : spEq (OneO D c f) vs H Q E) : FSp D f vs H Q E := by
  obtain ⟨a, b, rfl, ⟨G, fs, r, le, e, r1, r2⟩, q⟩ := h
  refine ⟨G, [.val (.obj c fs), .val (.obj c fs)], rfl, ⟨le, rfl, fun i s h => ?_, fun i j k m k' m' x h1 h2 h3 h4 => ?_⟩, ?_⟩
  · match i, h with
    | 0, h => cases h; exact ⟨_, rfl, r1⟩
    | 1, h => cases h; exact ⟨_, rfl, r2⟩
  · match i, h1 with
    | 0, h1 => cases h1
    | 1, h1 => cases h1
  · rw [e]
    intro G' H' v n rr
    have : v = .bl true := rr
    rw [this]
    refine q H' fun x o hx => n.k x o hx fun w => ?_
    obtain ⟨i, k, m, h1, _⟩ := w
    match i, h1 with
    | 0, h1 => cases h1
    | 1, h1 => cases h1
theorem passes_no : Passes (L2.CX X.prog X.w) X (fun _ _ _ => False) := fun _ _ _ _ _ _ _ h => by
  obtain ⟨_, _, _, _, _, _, _, _, _, _, _, _, z⟩ := h
  exact z.elim
theorem rcG_one {c : Nat} {f : FM} (T : MtAt X.prog X.w X.K X.mg X.base D k "__eq__" c f) {C : Addr} (t : D.T c C) : RcG X k (DIns C (OneO D c f)) := by
  obtain ⟨g, fd, ps, h1, h2, h3, h4⟩ := T.h C t
  exact rcG_ins (h4.imp fun vs H Q E h => sp_one h) h2.at_ h2.fn h3 passes_no
theorem dins_one {c : Nat} {f : FM} {fs : List (Str × PV)} {x y : V} {r : List Slot} (u : DunAt D c) (le : LeG G H) (e : f [.val (.obj c fs), .val (.obj c fs)] = .ok (.v (.bl true)) r) (r1 : Rep D G (.obj c fs) x) (r2 : Rep D G (.obj c fs) y) : ∃ C, D.T c C ∧ DIns C (OneO D c f) x y H := by
  obtain ⟨a, C, dx, ws, rfl, h1, t1, q1⟩ := id r1
  obtain ⟨b, C', dy, zs, rfl, h2, t2, q2⟩ := id r2
  have := u.uq _ _ t1 t2
  subst this
  exact ⟨C, t1, a, b, dx, dy, ws, zs, rfl, rfl, le _ _ h1, le _ _ h2, G, fs, r, le, e, r1, r2⟩
theorem rep_H {c : Nat} {fs : List (Str × PV)} {v : V} (l : LeG G H) (r : RepH D G H (.obj c fs) v) : Rep D H (.obj c fs) v := by
  obtain ⟨a, C, dx, ws, e, h, t, q⟩ := r
  exact ⟨a, C, dx, ws, e, h, t, RepF.mono l q⟩
theorem dtup_of {K : PySem.W.Frag} {tab : List (Nat × FM)} {d : Nat} {G H : Hp} {xs : List PV} {x y : V} (hK : D.K = K) (le : LeG G H) (h : ∀ z ∈ xs, EqO tab d z) (r1 : RepH D G H (.tup xs) x) (r2 : RepH D G H (.tup xs) y) : DTup K (Sm D tab d) x y H := by
  obtain ⟨a, vs, rfl, s1, q1⟩ := RepH.tup le r1
  obtain ⟨b, ws, rfl, s2, q2⟩ := RepH.tup le r2
  refine ⟨a, b, vs, ws, rfl, rfl, hK ▸ s1, hK ▸ s2, by rw [q1.length, q2.length], fun i v w h1 h2 => ?_⟩
  have hi : i < xs.length := by
    have := (List.getElem?_eq_some_iff.mp h1).1
    rw [q1.length] at this
    exact this
  obtain ⟨v', e1, e2⟩ := q1.get (List.getElem?_eq_getElem hi)
  obtain ⟨w', e3, e4⟩ := q2.get (List.getElem?_eq_getElem hi)
  rw [h1] at e1; cases e1
  rw [h2] at e3; cases e3
  exact ⟨G, xs[i], le, h _ (List.getElem_mem hi), e2, e4⟩
theorem eqG_sm {tab : List (Nat × FM)} (hK : D.K = X.K) (T : TblAt X.prog X.w X.K X.mg X.base D k "__eq__" tab) (u : ∀ c f, tab.lookup c = some f → DunAt D c) : ∀ d : Nat, EqG X (k + d) (Sm D tab d) := by
  intro d
  induction d with
  | zero =>
    intro A pins s σ H x y v w sb I rx ry h
    obtain ⟨G, t, le, h, r1, r2⟩ := h
    cases t with
    | obj c fs =>
      obtain ⟨f, r, hf, e⟩ := h
      obtain ⟨C, t, q⟩ := dins_one (u c f hf) le e r1 r2
      exact (RcG.eqG (rcG_one (T c f hf) t) fun _ _ _ d => let ⟨a, b, _, _, _, _, hx, hy, _⟩ := d; ⟨a, b, hx, hy⟩).mono (Nat.le_add_right _ _) A pins s σ H x y v w sb I rx ry q
    | non => cases r1; cases r2; exact eqG_flat.mono (Nat.zero_le _) A pins s σ H _ _ v w sb I rx ry ⟨rfl, rfl, rfl⟩
    | bl i => cases r1; cases r2; exact eqG_flat.mono (Nat.zero_le _) A pins s σ H _ _ v w sb I rx ry ⟨rfl, rfl, by simp [eqV]⟩
    | int i => cases r1; cases r2; exact eqG_flat.mono (Nat.zero_le _) A pins s σ H _ _ v w sb I rx ry ⟨rfl, rfl, by simp [eqV]⟩
    | str i => cases r1; cases r2; exact eqG_flat.mono (Nat.zero_le _) A pins s σ H _ _ v w sb I rx ry ⟨rfl, rfl, by simp [eqV]⟩
    | _ => exact h.elim
  | succ d ih =>
    intro A pins s σ H x y v w sb I rx ry h
    obtain ⟨G, t, le, h, r1, r2⟩ := h
    cases t with
    | obj c fs =>
      obtain ⟨f, r, hf, e⟩ := h
      obtain ⟨C, t, q⟩ := dins_one (u c f hf) le e r1 r2
      exact (RcG.eqG (rcG_one (T c f hf) t) fun _ _ _ d => let ⟨a, b, _, _, _, _, hx, hy, _⟩ := d; ⟨a, b, hx, hy⟩).mono (Nat.le_add_right _ _) A pins s σ H x y v w sb I rx ry q
    | non => cases r1; cases r2; exact eqG_flat.mono (Nat.zero_le _) A pins s σ H _ _ v w sb I rx ry ⟨rfl, rfl, rfl⟩
    | bl i => cases r1; cases r2; exact eqG_flat.mono (Nat.zero_le _) A pins s σ H _ _ v w sb I rx ry ⟨rfl, rfl, by simp [eqV]⟩
    | int i => cases r1; cases r2; exact eqG_flat.mono (Nat.zero_le _) A pins s σ H _ _ v w sb I rx ry ⟨rfl, rfl, by simp [eqV]⟩
    | str i => cases r1; cases r2; exact eqG_flat.mono (Nat.zero_le _) A pins s σ H _ _ v w sb I rx ry ⟨rfl, rfl, by simp [eqV]⟩
    | tup xs => exact eqG_tup mon_sm ih A pins s σ H x y v w sb I rx ry (dtup_of hK le h (r1.toH le) (r2.toH le))
    | _ => exact h.elim
/-! ### == of things that are the same -/
def isOT : PV → Bool
  | .obj _ _ => true
  | .tup _ => true
  | _ => false
open Classical in
noncomputable def sameO (tab : List (Nat × FM)) (d : Nat) (x y : PV) : Option PV := if x = y ∧ isOT x = true ∧ EqO tab (d + 1) x then some (.bl true) else none
noncomputable def pyEqO (tab : List (Nat × FM)) (d : Nat) (x y : PV) : Option PV := orS (pyEq x y) (sameO tab d x y)
@[simp] theorem ev_eqO (tab : List (Nat × FM)) (d : Nat) (x y : PV) : pyEqO tab d x y = orS (pyEq x y) (sameO tab d x y) := (rfl)
theorem sameO_of {tab : List (Nat × FM)} {d : Nat} {x : PV} (h : isOT x = true) (e : EqO tab (d + 1) x) : sameO tab d x x = some (.bl true) := by
  unfold sameO
  rw [if_pos ⟨rfl, h, e⟩]
theorem sameO_obj {tab : List (Nat × FM)} {d c : Nat} {fs : List (Str × PV)} {f : FM} {r : List Slot} (hf : tab.lookup c = some f) (e : f [.val (.obj c fs), .val (.obj c fs)] = .ok (.v (.bl true)) r) : sameO tab d (.obj c fs) (.obj c fs) = some (.bl true) := sameO_of rfl ⟨f, r, hf, e⟩
theorem sameO_tup {tab : List (Nat × FM)} {d : Nat} {xs : List PV} (e : ∀ x ∈ xs, EqO tab d x) : sameO tab d (.tup xs) (.tup xs) = some (.bl true) := sameO_of rfl e
theorem eqO_obj {tab : List (Nat × FM)} {d c : Nat} {fs : List (Str × PV)} {f : FM} {r : List Slot} (hf : tab.lookup c = some f) (e : f [.val (.obj c fs), .val (.obj c fs)] = .ok (.v (.bl true)) r) : EqO tab d (.obj c fs) := by
  cases d <;> exact ⟨f, r, hf, e⟩
@[simp] theorem eq_oo (c e : Nat) (xs ys : List (Str × PV)) : pyEq (.obj c xs) (.obj e ys) = none := (rfl)
def AnyO (D : Wd) (tab : List (Nat × FM)) : Eqv := fun x y H => ∃ c f C, tab.lookup c = some f ∧ D.T c C ∧ DIns C (OneO D c f) x y H
theorem rcG_any {tab : List (Nat × FM)} (T : TblAt X.prog X.w X.K X.mg X.base D k "__eq__" tab) : RcG X k (AnyO D tab) := by
  intro A pins s σ H x y v w sb I rx ry h
  obtain ⟨c, f, C, hf, t, q⟩ := h
  exact rcG_one (T c f hf) t A pins s σ H x y v w sb I rx ry q
def rEqO (D : Wd) (tab : List (Nat × FM)) (d : Nat) (K : PySem.W.Frag) : R2 := fun x y H Q => rEqP K x y H Q ∨ rEqG (DTup K (Sm D tab d)) x y H Q ∨ rEqG (AnyO D tab) x y H Q
theorem op_eqO {tab : List (Nat × FM)} (hK : D.K = X.K) (hu : X.A.units + 64 < cLine) (T : TblAt X.prog X.w X.K X.mg X.base D k "__eq__" tab) (u : ∀ c f, tab.lookup c = some f → DunAt D c) (hr : Room (k + d + 1) X.A) : OpR X (compareOp .Eq) (rEqO D tab d X.K) :=
  (op_eqP hu).or ((op_eqG (rcG_tup mon_sm (eqG_sm hK T u d)) hr).or (op_eqG (rcG_any T) (hr.mono (by omega))))
theorem sn_eqO {tab : List (Nat × FM)} (u : ∀ c f, tab.lookup c = some f → DunAt D c) : Sn2 D (rEqO D tab d D.K) (pyEqO tab d) := by
  intro G H x y z v w Q l rx ry e q
  unfold pyEqO at e
  cases h : pyEq x y with
  | some z' =>
    rw [h] at e
    cases e
    exact .inl (sn_eq G H x y _ v w Q l rx ry h q)
  | none =>
    rw [h] at e
    simp only [orS_none] at e
    unfold sameO at e
    split at e
    · rename_i hs
      cases e
      obtain ⟨rfl, ho, he⟩ := hs
      have qq : ∀ H', Ext H H' → Q (.bl true) H' := fun H' ex => q G H' _ ⟨fun a o h => ex a o (l a o h), fun _ _ h => h, ex, fun _ _ h => .inl h⟩ rfl
      cases x with
      | obj c fs =>
        obtain ⟨f, r, hf, e⟩ := he
        obtain ⟨C, t, di⟩ := dins_one (u c f hf) (LeG.refl H) e (rep_H l rx) (rep_H l ry)
        exact .inr (.inr ⟨⟨c, f, C, hf, t, di⟩, qq⟩)
      | tup xs => exact .inr (.inl ⟨dtup_of rfl l he rx ry, qq⟩)
      | _ => cases ho
    · cases e
theorem lk_one {α : Type} {c e : Nat} {f g : α} (h : [(c, f)].lookup e = some g) : e = c ∧ f = g := by
  unfold List.lookup at h
  split at h
  · rename_i q; cases h; exact ⟨by simpa using q, rfl⟩
  · cases h
theorem re_eqO {tab : List (Nat × FM)} (hK : D.K = X.K) (hu : X.A.units + 64 < cLine) (T : TblAt X.prog X.w X.K X.mg X.base D k "__eq__" tab) (u : ∀ c f, tab.lookup c = some f → DunAt D c) (hr : Room (k + d + 1) X.A) (ha : RE D W X a ma) (hb : RP D W X b mb) : RE D W X (.Compare a [.Eq] [b] pos) (bin (pyEqO tab d) ma mb) :=
  re_cmp (nomark _) (op_eqO hK hu T u hr) (hK ▸ sn_eqO u) ha hb
theorem rb_eqO {tab : List (Nat × FM)} (hK : D.K = X.K) (hu : X.A.units + 64 < cLine) (T : TblAt X.prog X.w X.K X.mg X.base D k "__eq__" tab) (u : ∀ c f, tab.lookup c = some f → DunAt D c) (hr : Room (k + d + 1) X.A) (ha : RE D W X a ma) (hb : RP D W X b mb) : RB D W X (.Compare a [.Eq] [b] pos) (asB (bin (pyEqO tab d) ma mb)) :=
  rb_cmp (nomark _) (op_eqO hK hu T u hr) (hK ▸ sn_eqO u) ha hb
theorem dun_one {c : Nat} {f : FM} (u : DunAt D c) : ∀ e g, [(c, f)].lookup e = some g → DunAt D e := fun e g h => by
  obtain ⟨rfl, _⟩ := lk_one h
  exact u
end
end TR

set_option Elab.async false
set_option linter.all false
set_option maxRecDepth 100000
/-! the defs of law_k07_parts_of_a_test -/
namespace Gk
open PySem PySem.Spec L2 TR
set_option autoImplicit false
noncomputable section

def top (i : Nat) : Stmt := PySem.Challenge.pw_tworows_k07_parts_of_a_test.main.body.getD i (.Pass ⟨0, 0, 0, 0⟩)
/-- the own classes, by number -/
def clsT (mg : Str → Option Value) (c : Nat) (C : Addr) : Prop := (c = 3 ∧ mg "Test" = some (.ref C))
/-- the own exceptions, by number -/
def excT (mg : Str → Option Value) (c : Nat) (C : Addr) : Prop := (c = 24 ∧ mg "BadTest" = some (.ref C))
@[reducible] def DW (K : PySem.W.Frag) (mg : Str → Option Value) : Wd := ⟨K, clsT mg, excT mg, none⟩
theorem cls_3 {mg : Str → Option Value} {C : Addr} : clsT mg 3 C ↔ mg "Test" = some (.ref C) := by unfold clsT; simp
def c_CHARS : Str := " !\"#$&'()*+,-./0123456789:;<=>?@ABCDEFGHIJKLMNOPQRSTUVWXYZ[\\]^_`abcdefghijklmnopqrstuvwxyz{|}~"
def c_DIGITS : Str := "0123456789"
def c_KEPT_WORDS : List PV := [(.str "and"), (.str "or"), (.str "not"), (.str "sure"), (.str "in"), (.str "is"), (.str "empty"), (.str "begins"), (.str "always"), (.str "never")]
def c_LETTERS : Str := "abcdefghijklmnopqrstuvwxyz"
def c_OPERATORS : List PV := [(.str "<"), (.str "<="), (.str "=="), (.str "!="), (.str ">"), (.str ">=")]
structure BN (K : PySem.W.Frag) (mg : Str → Option Value) : Prop where
  hT : IsAll (DW K mg)
  b_bool : mg "bool" = none
  b_int : mg "int" = none
  b_isinstance : mg "isinstance" = none
  b_len : mg "len" = none
  b_list : mg "list" = none
  b_max : mg "max" = none
  b_range : mg "range" = none
  b_sorted : mg "sorted" = none
  b_str : mg "str" = none
  b_tuple : mg "tuple" = none
  g_CHARS : GlV (DW K mg) mg "CHARS" (.str c_CHARS)
  g_DIGITS : GlV (DW K mg) mg "DIGITS" (.str c_DIGITS)
  g_KEPT_WORDS : GlV (DW K mg) mg "KEPT_WORDS" (.tup c_KEPT_WORDS)
  g_LETTERS : GlV (DW K mg) mg "LETTERS" (.str c_LETTERS)
  g_MOST_ATOMS : GlV (DW K mg) mg "MOST_ATOMS" (.int 24)
  g_MOST_LEVELS : GlV (DW K mg) mg "MOST_LEVELS" (.int 12)
  g_OPERATORS : GlV (DW K mg) mg "OPERATORS" (.tup c_OPERATORS)
  f_3__data : CF (DW K mg) "_data" 3
  f_3__kind : CF (DW K mg) "_kind" 3
  f_3__parts : CF (DW K mg) "_parts" 3
  i_Test : IsAt (DW K mg) mg "Test" [3]
  du_3 : DunAt (DW K mg) 3
abbrev s__law_begin : Stmt := top 38
abbrev n__law_begin : List Str := ["_law_script"]
theorem sc__law_begin : FnScope n__law_begin ["_law_script"] (defScope s__law_begin) := ⟨rfl, rfl, rfl, by decide +kernel, rfl, by decide +kernel, by decide +kernel⟩
def q__law_begin_1  : SM := (retO (lstM (argV (frz (listM (slN 0 noP (someP (cst (.int 63)))))) (argV (cst (.int 0)) (argV (cst (.int 0)) (argV (cst (.int 1)) (argV (cst (.int 0)) argNil)))))))
@[simp] theorem e__law_begin_1  (ρ : Ev) : q__law_begin_1  ρ = (retO (lstM (argV (frz (listM (slN 0 noP (someP (cst (.int 63)))))) (argV (cst (.int 0)) (argV (cst (.int 0)) (argV (cst (.int 1)) (argV (cst (.int 0)) argNil))))))) ρ := (rfl)
def m__law_begin : FM := fnB 1 1
  q__law_begin_1
theorem em__law_begin (as : List Slot) : m__law_begin as = if as.length = 1 then fin 1 as (q__law_begin_1 (enter 1 as)) else .stuck := ev_fn _ _ _ as
theorem ok__law_begin {P : Program} {w : World} {K : PySem.W.Frag} {mg : Str → Option Value} {base : Heap} (B : BN K mg) (d : DefAt K mg "_law_begin" s__law_begin ["_law_script"]) : FnAt P w K mg base (DW K mg) 1 "_law_begin" ["_law_script"] m__law_begin :=
  fn_at d sc__law_begin rfl (by decide) fun cdv A outer s H E hr tk =>
  (ss_one (s_retO (rn_lst (ra_v (re_frz (rn_list rfl (rp_of (re_slN rfl (pv 0) ro_none (ro_some re_int))) rfl B.b_list)) (ra_v re_int (ra_v re_int (ra_v re_int (ra_v re_int ra_nil))))))))
abbrev s__law_take : Stmt := top 39
abbrev n__law_take : List Str := ["_law_draw", "_law_many", "_law_cell", "_law_digit", "_law_mixed"]
theorem sc__law_take : FnScope n__law_take ["_law_draw", "_law_many"] (defScope s__law_take) := ⟨rfl, rfl, rfl, by decide +kernel, rfl, by decide +kernel, by decide +kernel⟩
def q__law_take_2  : SM := (setM 2 (bin pyIx (binN pyIx 0 (cst (.int 0))) (binN pyIx 0 (cst (.int 1)))))
@[simp] theorem e__law_take_2  (ρ : Ev) : q__law_take_2  ρ = (setM 2 (bin pyIx (binN pyIx 0 (cst (.int 0))) (binN pyIx 0 (cst (.int 1))))) ρ := (rfl)
def q__law_take_3  : SM := (setIx 0 (cst (.int 1)) (bin pyAdd (binN pyIx 0 (cst (.int 1))) (cst (.int 1))))
@[simp] theorem e__law_take_3  (ρ : Ev) : q__law_take_3  ρ = (setIx 0 (cst (.int 1)) (bin pyAdd (binN pyIx 0 (cst (.int 1))) (cst (.int 1)))) ρ := (rfl)
def q__law_take_5  : SM := (setIx 0 (cst (.int 2)) (bin pyMod (callB bInt (argN 2 argNil)) (bin pyPow (bin pyPow (cst (.int 10)) (cst (.int 60))) (cst (.int 15)))))
@[simp] theorem e__law_take_5  (ρ : Ev) : q__law_take_5  ρ = (setIx 0 (cst (.int 2)) (bin pyMod (callB bInt (argN 2 argNil)) (bin pyPow (bin pyPow (cst (.int 10)) (cst (.int 60))) (cst (.int 15))))) ρ := (rfl)
def q__law_take_6  : SM := (setIx 0 (cst (.int 3)) (bin pyMod (callB bInt (argV (bin pyAdd (bin pyAdd (bin pyMul (binN pyIx 0 (cst (.int 3))) (cst (.int 31))) (bin pyMod (callB bInt (argN 2 argNil)) (cst (.int 2147483629)))) (cst (.int 1))) argNil)) (cst (.int 2147483647))))
@[simp] theorem e__law_take_6  (ρ : Ev) : q__law_take_6  ρ = (setIx 0 (cst (.int 3)) (bin pyMod (callB bInt (argV (bin pyAdd (bin pyAdd (bin pyMul (binN pyIx 0 (cst (.int 3))) (cst (.int 31))) (bin pyMod (callB bInt (argN 2 argNil)) (cst (.int 2147483629)))) (cst (.int 1))) argNil)) (cst (.int 2147483647)))) ρ := (rfl)
def q__law_take_4  : SM := (ifM (asB (binN pyGe 2 (bin pyPow (cst (.int 10)) (cst (.int 18)))))
  q__law_take_5
  q__law_take_6)
@[simp] theorem e__law_take_4  (ρ : Ev) : q__law_take_4  ρ = (ifM (asB (binN pyGe 2 (bin pyPow (cst (.int 10)) (cst (.int 18)))))
  q__law_take_5
  q__law_take_6) ρ := (rfl)
def q__law_take_1  : SM := (ifM (andM (asB (bin pyEq (binN pyIx 0 (cst (.int 2))) (cst (.int 0)))) (asB (bin pyLt (binN pyIx 0 (cst (.int 1))) (callB bLen (argV (binN pyIx 0 (cst (.int 0))) argNil)))))
  (seqM q__law_take_2
  (seqM q__law_take_3
  q__law_take_4))
  skipM)
@[simp] theorem e__law_take_1  (ρ : Ev) : q__law_take_1  ρ = (ifM (andM (asB (bin pyEq (binN pyIx 0 (cst (.int 2))) (cst (.int 0)))) (asB (bin pyLt (binN pyIx 0 (cst (.int 1))) (callB bLen (argV (binN pyIx 0 (cst (.int 0))) argNil)))))
  (seqM q__law_take_2
  (seqM q__law_take_3
  q__law_take_4))
  skipM) ρ := (rfl)
def q__law_take_8  : SM := (setM 3 (bin pyMod (callB bInt (argV (binN pyIx 0 (cst (.int 2))) argNil)) (peek 1)))
@[simp] theorem e__law_take_8  (ρ : Ev) : q__law_take_8  ρ = (setM 3 (bin pyMod (callB bInt (argV (binN pyIx 0 (cst (.int 2))) argNil)) (peek 1))) ρ := (rfl)
def q__law_take_9  : SM := (setIx 0 (cst (.int 2)) (bin pyDiv (binN pyIx 0 (cst (.int 2))) (peek 1)))
@[simp] theorem e__law_take_9  (ρ : Ev) : q__law_take_9  ρ = (setIx 0 (cst (.int 2)) (bin pyDiv (binN pyIx 0 (cst (.int 2))) (peek 1))) ρ := (rfl)
def q__law_take_10  : SM := (retV 3)
@[simp] theorem e__law_take_10  (ρ : Ev) : q__law_take_10  ρ = (retV 3) ρ := (rfl)
def q__law_take_7  : SM := (ifM (asB (bin pyGt (binN pyIx 0 (cst (.int 2))) (cst (.int 0))))
  (seqM q__law_take_8
  (seqM q__law_take_9
  q__law_take_10))
  skipM)
@[simp] theorem e__law_take_7  (ρ : Ev) : q__law_take_7  ρ = (ifM (asB (bin pyGt (binN pyIx 0 (cst (.int 2))) (cst (.int 0))))
  (seqM q__law_take_8
  (seqM q__law_take_9
  q__law_take_10))
  skipM) ρ := (rfl)
def q__law_take_11  : SM := (setIx 0 (cst (.int 4)) (bin pyAdd (binN pyIx 0 (cst (.int 4))) (cst (.int 1))))
@[simp] theorem e__law_take_11  (ρ : Ev) : q__law_take_11  ρ = (setIx 0 (cst (.int 4)) (bin pyAdd (binN pyIx 0 (cst (.int 4))) (cst (.int 1)))) ρ := (rfl)
def q__law_take_12  : SM := (setM 4 (bin pyMod (callB bInt (argV (bin pyAdd (binN pyIx 0 (cst (.int 3))) (bin pyMul (cst (.int 40692)) (binN pyIx 0 (cst (.int 4))))) argNil)) (cst (.int 2147483647))))
@[simp] theorem e__law_take_12  (ρ : Ev) : q__law_take_12  ρ = (setM 4 (bin pyMod (callB bInt (argV (bin pyAdd (binN pyIx 0 (cst (.int 3))) (bin pyMul (cst (.int 40692)) (binN pyIx 0 (cst (.int 4))))) argNil)) (cst (.int 2147483647)))) ρ := (rfl)
def q__law_take_13  : SM := (setM 4 (bin pyMod (callB bInt (argV (binN pyPow 4 (cst (.int 5))) argNil)) (cst (.int 2147483647))))
@[simp] theorem e__law_take_13  (ρ : Ev) : q__law_take_13  ρ = (setM 4 (bin pyMod (callB bInt (argV (binN pyPow 4 (cst (.int 5))) argNil)) (cst (.int 2147483647)))) ρ := (rfl)
def q__law_take_14  : SM := (setIx 0 (cst (.int 3)) (bin pyMod (callB bInt (argV (bin pyAdd (binN pyMul 4 (cst (.int 69621))) (binN pyIx 0 (cst (.int 4)))) argNil)) (cst (.int 2147483629))))
@[simp] theorem e__law_take_14  (ρ : Ev) : q__law_take_14  ρ = (setIx 0 (cst (.int 3)) (bin pyMod (callB bInt (argV (bin pyAdd (binN pyMul 4 (cst (.int 69621))) (binN pyIx 0 (cst (.int 4)))) argNil)) (cst (.int 2147483629)))) ρ := (rfl)
def q__law_take_15  : SM := (retM (bin pyMod (callB bInt (argV (bin pyDiv (binN pyIx 0 (cst (.int 3))) (cst (.int 8))) argNil)) (peek 1)))
@[simp] theorem e__law_take_15  (ρ : Ev) : q__law_take_15  ρ = (retM (bin pyMod (callB bInt (argV (bin pyDiv (binN pyIx 0 (cst (.int 3))) (cst (.int 8))) argNil)) (peek 1))) ρ := (rfl)
def m__law_take : FM := fnB 2 5
  (seqM q__law_take_1
  (seqM q__law_take_7
  (seqM q__law_take_11
  (seqM q__law_take_12
  (seqM q__law_take_13
  (seqM q__law_take_14
  q__law_take_15))))))
theorem em__law_take (as : List Slot) : m__law_take as = if as.length = 2 then fin 2 as ((seqM q__law_take_1
  (seqM q__law_take_7
  (seqM q__law_take_11
  (seqM q__law_take_12
  (seqM q__law_take_13
  (seqM q__law_take_14
  q__law_take_15)))))) (enter 5 as)) else .stuck := ev_fn _ _ _ as
theorem ok__law_take {P : Program} {w : World} {K : PySem.W.Frag} {mg : Str → Option Value} {base : Heap} (B : BN K mg) (d : DefAt K mg "_law_take" s__law_take ["_law_draw", "_law_many"]) : FnAt P w K mg base (DW K mg) 1 "_law_take" ["_law_draw", "_law_many"] m__law_take :=
  fn_at d sc__law_take rfl (by decide) fun cdv A outer s H E hr tk =>
  (ss_cons (s_if (rb_w (rw_and (rb_cmp (nomark _) (op_eqP hr.units) sn_eq (re_ixN (hu1 hr) rfl (pv 0) (rp_of re_int)) (rp_of re_int)) (rw_and1 (rb_cmp (nomark _) op_ltP sn_lt (re_ixN (hu1 hr) rfl (pv 0) (rp_of re_int)) (rp_of (re_len rfl (hg := rfl) (hm := B.b_len) (ha := (ra_v (re_ixN (hu1 hr) rfl (pv 0) (rp_of re_int)) ra_nil))))))))
  (ss_cons (s_set (i := 2) sc__law_take.nd rfl (by first | exact Or.inl rfl | exact Or.inr rfl) (re_ix (hu1 hr) rfl (re_ixN (hu1 hr) rfl (pv 0) (rp_of re_int)) (rp_of (re_ixN (hu1 hr) rfl (pv 0) (rp_of re_int)))))
  (ss_cons (s_setIx (i := 0) (hu1 hr) (pv 0) re_int (re_bin op_addP sn_add (re_ixN (hu1 hr) rfl (pv 0) (rp_of re_int)) (rp_of re_int)))
  (ss_one (s_if (rb_cmpN (nomark _) op_geP sn_ge (pv 2) (rp_of (re_bin op_powW sn_pow re_int (rp_of re_int))))
  (ss_one (s_setIx (i := 0) (hu1 hr) (pv 0) re_int (re_bin op_mod sn_mod (re_int1 (hg := rfl) (hm := B.b_int) (ha := (ra_n 2 (pv 2) ra_nil))) (rp_of (re_bin op_powW sn_pow (re_bin op_powW sn_pow re_int (rp_of re_int)) (rp_of re_int))))))
  (ss_one (s_setIx (i := 0) (hu1 hr) (pv 0) re_int (re_bin op_mod sn_mod (re_int1 (hg := rfl) (hm := B.b_int) (ha := (ra_v (re_bin op_addP sn_add (re_bin op_addP sn_add (re_bin op_mulW sn_mul (re_ixN (hu1 hr) rfl (pv 0) (rp_of re_int)) (rp_of re_int)) (rp_of (re_bin op_mod sn_mod (re_int1 (hg := rfl) (hm := B.b_int) (ha := (ra_n 2 (pv 2) ra_nil))) (rp_of re_int)))) (rp_of re_int)) ra_nil))) (rp_of re_int))))))))
  ss_nil)
  (ss_cons (s_if (rb_cmp (nomark _) op_gtP sn_gt (re_ixN (hu1 hr) rfl (pv 0) (rp_of re_int)) (rp_of re_int))
  (ss_cons (s_set (i := 3) sc__law_take.nd rfl (by first | exact Or.inl rfl | exact Or.inr rfl) (re_bin op_mod sn_mod (re_int1 (hg := rfl) (hm := B.b_int) (ha := (ra_v (re_ixN (hu1 hr) rfl (pv 0) (rp_of re_int)) ra_nil))) (rp_var 1 (pv 1))))
  (ss_cons (s_setIx (i := 0) (hu1 hr) (pv 0) re_int (re_bin op_fdivW sn_div (re_ixN (hu1 hr) rfl (pv 0) (rp_of re_int)) (rp_var 1 (pv 1))))
  (ss_one (s_retV 3 (pv 3)))))
  ss_nil)
  (ss_cons (s_setIx (i := 0) (hu1 hr) (pv 0) re_int (re_bin op_addP sn_add (re_ixN (hu1 hr) rfl (pv 0) (rp_of re_int)) (rp_of re_int)))
  (ss_cons (s_set (i := 4) sc__law_take.nd rfl (by first | exact Or.inl rfl | exact Or.inr rfl) (re_bin op_mod sn_mod (re_int1 (hg := rfl) (hm := B.b_int) (ha := (ra_v (re_bin op_addP sn_add (re_ixN (hu1 hr) rfl (pv 0) (rp_of re_int)) (rp_of (re_bin op_mulW sn_mul re_int (rp_of (re_ixN (hu1 hr) rfl (pv 0) (rp_of re_int)))))) ra_nil))) (rp_of re_int)))
  (ss_cons (s_set (i := 4) sc__law_take.nd rfl (by first | exact Or.inl rfl | exact Or.inr rfl) (re_bin op_mod sn_mod (re_int1 (hg := rfl) (hm := B.b_int) (ha := (ra_v (re_binN op_powW sn_pow (pv 4) (rp_of re_int)) ra_nil))) (rp_of re_int)))
  (ss_cons (s_setIx (i := 0) (hu1 hr) (pv 0) re_int (re_bin op_mod sn_mod (re_int1 (hg := rfl) (hm := B.b_int) (ha := (ra_v (re_bin op_addP sn_add (re_binN op_mulW sn_mul (pv 4) (rp_of re_int)) (rp_of (re_ixN (hu1 hr) rfl (pv 0) (rp_of re_int)))) ra_nil))) (rp_of re_int)))
  (ss_one (s_ret (re_bin op_mod sn_mod (re_int1 (hg := rfl) (hm := B.b_int) (ha := (ra_v (re_bin op_fdivW sn_div (re_ixN (hu1 hr) rfl (pv 0) (rp_of re_int)) (rp_of re_int)) ra_nil))) (rp_var 1 (pv 1)))))))))))
abbrev s__law_name : Stmt := top 45
abbrev n__law_name : List Str := ["_law_draw", "_law_taken", "_law_letters", "_law_signs", "_law_name_here", "_law_k", "_law_kept"]
theorem sc__law_name : FnScope n__law_name ["_law_draw", "_law_taken"] (defScope s__law_name) := ⟨rfl, rfl, rfl, by decide +kernel, rfl, by decide +kernel, by decide +kernel⟩
def q__law_name_1  : SM := (setM 2 (cst (.str "abcdefghijklmnopqrstuvwxyz")))
@[simp] theorem e__law_name_1  (ρ : Ev) : q__law_name_1  ρ = (setM 2 (cst (.str "abcdefghijklmnopqrstuvwxyz"))) ρ := (rfl)
def q__law_name_2  : SM := (setM 3 (binN pyAdd 2 (cst (.str "0123456789"))))
@[simp] theorem e__law_name_2  (ρ : Ev) : q__law_name_2  ρ = (setM 3 (binN pyAdd 2 (cst (.str "0123456789")))) ρ := (rfl)
def q__law_name_3  : SM := (setM 4 (binN pyIx 2 (callE m__law_take (argN 0 (argV (cst (.int 26)) argNil)))))
@[simp] theorem e__law_name_3  (ρ : Ev) : q__law_name_3  ρ = (setM 4 (binN pyIx 2 (callE m__law_take (argN 0 (argV (cst (.int 26)) argNil))))) ρ := (rfl)
def q__law_name_5  : SM := (setM 4 (binN pyAdd 4 (binN pyIx 3 (callE m__law_take (argN 0 (argV (cst (.int 36)) argNil))))))
@[simp] theorem e__law_name_5  (ρ : Ev) : q__law_name_5  ρ = (setM 4 (binN pyAdd 4 (binN pyIx 3 (callE m__law_take (argN 0 (argV (cst (.int 36)) argNil)))))) ρ := (rfl)
def q__law_name_4  : SM := (frM (itR1 (callE m__law_take (argN 0 (argV (cst (.int 8)) argNil)))) (tgN 5)
  q__law_name_5)
@[simp] theorem e__law_name_4  (ρ : Ev) : q__law_name_4  ρ = (frM (itR1 (callE m__law_take (argN 0 (argV (cst (.int 8)) argNil)))) (tgN 5)
  q__law_name_5) ρ := (rfl)
def q__law_name_6  : SM := (setO 6 (lstM (argV (cst (.str "and")) (argV (cst (.str "or")) (argV (cst (.str "not")) (argV (cst (.str "sure")) (argV (cst (.str "in")) (argV (cst (.str "is")) (argV (cst (.str "empty")) (argV (cst (.str "begins")) (argV (cst (.str "always")) (argV (cst (.str "never")) argNil))))))))))))
@[simp] theorem e__law_name_6  (ρ : Ev) : q__law_name_6  ρ = (setO 6 (lstM (argV (cst (.str "and")) (argV (cst (.str "or")) (argV (cst (.str "not")) (argV (cst (.str "sure")) (argV (cst (.str "in")) (argV (cst (.str "is")) (argV (cst (.str "empty")) (argV (cst (.str "begins")) (argV (cst (.str "always")) (argV (cst (.str "never")) argNil)))))))))))) ρ := (rfl)
def q__law_name_8  : SM := (setM 4 (slN 4 noP (someP (cst (.int 6)))))
@[simp] theorem e__law_name_8  (ρ : Ev) : q__law_name_8  ρ = (setM 4 (slN 4 noP (someP (cst (.int 6))))) ρ := (rfl)
def q__law_name_11  : SM := (retM (binN pyAdd 4 (callB bStr (argN 5 argNil))))
@[simp] theorem e__law_name_11  (ρ : Ev) : q__law_name_11  ρ = (retM (binN pyAdd 4 (callB bStr (argN 5 argNil)))) ρ := (rfl)
def q__law_name_10  : SM := (ifM (asB (bin pyNotIn (binN pyAdd 4 (callB bStr (argN 5 argNil))) (peek 1)))
  q__law_name_11
  skipM)
@[simp] theorem e__law_name_10  (ρ : Ev) : q__law_name_10  ρ = (ifM (asB (bin pyNotIn (binN pyAdd 4 (callB bStr (argN 5 argNil))) (peek 1)))
  q__law_name_11
  skipM) ρ := (rfl)
def q__law_name_9  : SM := (frM (itR1 (cst (.int 60))) (tgN 5)
  q__law_name_10)
@[simp] theorem e__law_name_9  (ρ : Ev) : q__law_name_9  ρ = (frM (itR1 (cst (.int 60))) (tgN 5)
  q__law_name_10) ρ := (rfl)
def q__law_name_7  : SM := (ifM (orM (asB (binN pyIn 4 (peek 6))) (asB (binN pyIn 4 (peek 1))))
  (seqM q__law_name_8
  q__law_name_9)
  skipM)
@[simp] theorem e__law_name_7  (ρ : Ev) : q__law_name_7  ρ = (ifM (orM (asB (binN pyIn 4 (peek 6))) (asB (binN pyIn 4 (peek 1))))
  (seqM q__law_name_8
  q__law_name_9)
  skipM) ρ := (rfl)
def q__law_name_12  : SM := (retV 4)
@[simp] theorem e__law_name_12  (ρ : Ev) : q__law_name_12  ρ = (retV 4) ρ := (rfl)
def m__law_name : FM := fnB 2 7
  (seqM q__law_name_1
  (seqM q__law_name_2
  (seqM q__law_name_3
  (seqM q__law_name_4
  (seqM q__law_name_6
  (seqM q__law_name_7
  q__law_name_12))))))
theorem em__law_name (as : List Slot) : m__law_name as = if as.length = 2 then fin 2 as ((seqM q__law_name_1
  (seqM q__law_name_2
  (seqM q__law_name_3
  (seqM q__law_name_4
  (seqM q__law_name_6
  (seqM q__law_name_7
  q__law_name_12)))))) (enter 7 as)) else .stuck := ev_fn _ _ _ as
theorem ok__law_name {P : Program} {w : World} {K : PySem.W.Frag} {mg : Str → Option Value} {base : Heap} (B : BN K mg) (C__law_take : FnAt P w K mg base (DW K mg) 1 "_law_take" ["_law_draw", "_law_many"] m__law_take) (d : DefAt K mg "_law_name" s__law_name ["_law_draw", "_law_taken"]) : FnAt P w K mg base (DW K mg) 2 "_law_name" ["_law_draw", "_law_taken"] m__law_name :=
  fn_at d sc__law_name rfl (by decide) fun cdv A outer s H E hr tk =>
  (ss_cons (s_set (i := 2) sc__law_name.nd rfl (by first | exact Or.inl rfl | exact Or.inr rfl) re_str)
  (ss_cons (s_set (i := 3) sc__law_name.nd rfl (by first | exact Or.inl rfl | exact Or.inr rfl) (re_binN op_addP sn_add (pv 2) (rp_of re_str)))
  (ss_cons (s_set (i := 4) sc__law_name.nd rfl (by first | exact Or.inl rfl | exact Or.inr rfl) (re_ixN (hu1 hr) rfl (pv 2) (rp_of (re_callA C__law_take (hr.mono (by omega)) tk (ra_n 0 (pv 0) (ra_v re_int ra_nil))))))
  (ss_cons (s_fr (passes_of rfl) rfl (ri_r1 rfl B.b_range (re_callA C__law_take (hr.mono (by omega)) tk (ra_n 0 (pv 0) (ra_v re_int ra_nil)))) (pg_name (i := 5) sc__law_name.nd rfl (by first | exact Or.inl rfl | exact Or.inr rfl)) (vs := [5]) (tgx_name (by decide))
  (ss_one (s_set (i := 4) sc__law_name.nd rfl (by first | exact Or.inl rfl | exact Or.inr rfl) (re_binN op_addP sn_add (pv 4) (rp_of (re_ixN (hu1 hr) rfl (pv 3) (rp_of (re_callA C__law_take (hr.mono (by omega)) tk (ra_n 0 (pv 0) (ra_v re_int ra_nil))))))))))
  (ss_cons (s_setO (i := 6) sc__law_name.nd rfl (by first | exact Or.inl rfl | exact Or.inr rfl) (rn_lst (ra_v re_str (ra_v re_str (ra_v re_str (ra_v re_str (ra_v re_str (ra_v re_str (ra_v re_str (ra_v re_str (ra_v re_str (ra_v re_str ra_nil))))))))))))
  (ss_cons (s_if (rb_w (rw_or (rb_cmpN rfl (op_inP (hu65 hr)) sn_in (pv 4) (rp_var 6 (pv 6))) (rw_or1 (rb_cmpN rfl (op_inP (hu65 hr)) sn_in (pv 4) (rp_var 1 (pv 1))))))
  (ss_cons (s_set (i := 4) sc__law_name.nd rfl (by first | exact Or.inl rfl | exact Or.inr rfl) (re_slN rfl (pv 4) ro_none (ro_some re_int)))
  (ss_one (s_fr (passes_of rfl) rfl (ri_r1 rfl B.b_range re_int) (pg_name (i := 5) sc__law_name.nd rfl (by first | exact Or.inl rfl | exact Or.inr rfl)) (vs := [5]) (tgx_name (by decide))
  (ss_one (s_if (rb_cmp rfl (op_notInP (hu65 hr)) sn_notIn (re_binN op_addP sn_add (pv 4) (rp_of (re_str1 (hg := rfl) (hm := B.b_str) (ha := (ra_n 5 (pv 5) ra_nil))))) (rp_var 1 (pv 1)))
  (ss_one (s_ret (re_binN op_addP sn_add (pv 4) (rp_of (re_str1 (hg := rfl) (hm := B.b_str) (ha := (ra_n 5 (pv 5) ra_nil)))))))
  ss_nil)))))
  ss_nil)
  (ss_one (s_retV 4 (pv 4)))))))))
abbrev s__law_columns : Stmt := top 46
abbrev n__law_columns : List Str := ["_law_draw", "_law_most", "_law_names_here", "_law_columns_here", "_law_k", "_law_name_here", "_law_kind"]
theorem sc__law_columns : FnScope n__law_columns ["_law_draw", "_law_most"] (defScope s__law_columns) := ⟨rfl, rfl, rfl, by decide +kernel, rfl, by decide +kernel, by decide +kernel⟩
def q__law_columns_1  : SM := (setO 2 (lstM argNil))
@[simp] theorem e__law_columns_1  (ρ : Ev) : q__law_columns_1  ρ = (setO 2 (lstM argNil)) ρ := (rfl)
def q__law_columns_2  : SM := (setO 3 (lstM argNil))
@[simp] theorem e__law_columns_2  (ρ : Ev) : q__law_columns_2  ρ = (setO 3 (lstM argNil)) ρ := (rfl)
def q__law_columns_4  : SM := (setM 5 (callE m__law_name (argN 0 (argN 2 argNil))))
@[simp] theorem e__law_columns_4  (ρ : Ev) : q__law_columns_4  ρ = (setM 5 (callE m__law_name (argN 0 (argN 2 argNil)))) ρ := (rfl)
def q__law_columns_5  : SM := (exprM (methM lAppend 2 (argV (getv 5) argNil)))
@[simp] theorem e__law_columns_5  (ρ : Ev) : q__law_columns_5  ρ = (exprM (methM lAppend 2 (argV (getv 5) argNil))) ρ := (rfl)
def q__law_columns_6  : SM := (setM 6 (bin pyIx (frz (lstM (argV (cst (.str "number")) (argV (cst (.str "text")) argNil)))) (callE m__law_take (argN 0 (argV (cst (.int 2)) argNil)))))
@[simp] theorem e__law_columns_6  (ρ : Ev) : q__law_columns_6  ρ = (setM 6 (bin pyIx (frz (lstM (argV (cst (.str "number")) (argV (cst (.str "text")) argNil)))) (callE m__law_take (argN 0 (argV (cst (.int 2)) argNil))))) ρ := (rfl)
def q__law_columns_8  : SM := (setM 6 (bin pyIx (binN pyIx 3 (cst (.int 0))) (cst (.int 1))))
@[simp] theorem e__law_columns_8  (ρ : Ev) : q__law_columns_8  ρ = (setM 6 (bin pyIx (binN pyIx 3 (cst (.int 0))) (cst (.int 1)))) ρ := (rfl)
def q__law_columns_7  : SM := (ifM (andM (asB (binN pyGt 4 (cst (.int 0)))) (asB (bin pyEq (callE m__law_take (argN 0 (argV (cst (.int 2)) argNil))) (cst (.int 0)))))
  q__law_columns_8
  skipM)
@[simp] theorem e__law_columns_7  (ρ : Ev) : q__law_columns_7  ρ = (ifM (andM (asB (binN pyGt 4 (cst (.int 0)))) (asB (bin pyEq (callE m__law_take (argN 0 (argV (cst (.int 2)) argNil))) (cst (.int 0)))))
  q__law_columns_8
  skipM) ρ := (rfl)
def q__law_columns_9  : SM := (exprM (methM lAppend 3 (argV (tupM (argV (getv 5) (argV (getv 6) (argV (bin pyEq (callE m__law_take (argN 0 (argV (cst (.int 3)) argNil))) (cst (.int 0))) argNil)))) argNil)))
@[simp] theorem e__law_columns_9  (ρ : Ev) : q__law_columns_9  ρ = (exprM (methM lAppend 3 (argV (tupM (argV (getv 5) (argV (getv 6) (argV (bin pyEq (callE m__law_take (argN 0 (argV (cst (.int 3)) argNil))) (cst (.int 0))) argNil)))) argNil))) ρ := (rfl)
def q__law_columns_3  : SM := (frM (itR1 (bin pyAdd (cst (.int 1)) (callE m__law_take (argN 0 (argV (getv 1) argNil))))) (tgN 4)
  (seqM q__law_columns_4
  (seqM q__law_columns_5
  (seqM q__law_columns_6
  (seqM q__law_columns_7
  q__law_columns_9)))))
@[simp] theorem e__law_columns_3  (ρ : Ev) : q__law_columns_3  ρ = (frM (itR1 (bin pyAdd (cst (.int 1)) (callE m__law_take (argN 0 (argV (getv 1) argNil))))) (tgN 4)
  (seqM q__law_columns_4
  (seqM q__law_columns_5
  (seqM q__law_columns_6
  (seqM q__law_columns_7
  q__law_columns_9))))) ρ := (rfl)
def q__law_columns_10  : SM := (retV 3)
@[simp] theorem e__law_columns_10  (ρ : Ev) : q__law_columns_10  ρ = (retV 3) ρ := (rfl)
def m__law_columns : FM := fnB 2 7
  (seqM q__law_columns_1
  (seqM q__law_columns_2
  (seqM q__law_columns_3
  q__law_columns_10)))
theorem em__law_columns (as : List Slot) : m__law_columns as = if as.length = 2 then fin 2 as ((seqM q__law_columns_1
  (seqM q__law_columns_2
  (seqM q__law_columns_3
  q__law_columns_10))) (enter 7 as)) else .stuck := ev_fn _ _ _ as
theorem ok__law_columns {P : Program} {w : World} {K : PySem.W.Frag} {mg : Str → Option Value} {base : Heap} (B : BN K mg) (C__law_take : FnAt P w K mg base (DW K mg) 1 "_law_take" ["_law_draw", "_law_many"] m__law_take) (C__law_name : FnAt P w K mg base (DW K mg) 2 "_law_name" ["_law_draw", "_law_taken"] m__law_name) (d : DefAt K mg "_law_columns" s__law_columns ["_law_draw", "_law_most"]) : FnAt P w K mg base (DW K mg) 3 "_law_columns" ["_law_draw", "_law_most"] m__law_columns :=
  fn_at d sc__law_columns rfl (by decide) fun cdv A outer s H E hr tk =>
  (ss_cons (s_setO (i := 2) sc__law_columns.nd rfl (by first | exact Or.inl rfl | exact Or.inr rfl) (rn_lst ra_nil))
  (ss_cons (s_setO (i := 3) sc__law_columns.nd rfl (by first | exact Or.inl rfl | exact Or.inr rfl) (rn_lst ra_nil))
  (ss_cons (s_fr (passes_of rfl) rfl (ri_r1 rfl B.b_range (re_bin op_addP sn_add re_int (rp_of (re_callA C__law_take (hr.mono (by omega)) tk (ra_n 0 (pv 0) (ra_v (re_var 1 (pv 1)) ra_nil)))))) (pg_name (i := 4) sc__law_columns.nd rfl (by first | exact Or.inl rfl | exact Or.inr rfl)) (vs := [4]) (tgx_name (by decide))
  (ss_cons (s_set (i := 5) sc__law_columns.nd rfl (by first | exact Or.inl rfl | exact Or.inr rfl) (re_callA C__law_name (hr.mono (by omega)) tk (ra_n 0 (pv 0) (ra_n 2 (pv 2) ra_nil))))
  (ss_cons (s_expr (re_lm PySem.F.slot_list_append PySem.F.type_list_append mt_append sn_append rfl (pv 2) (ra_v (re_var 5 (pv 5)) ra_nil)))
  (ss_cons (s_set (i := 6) sc__law_columns.nd rfl (by first | exact Or.inl rfl | exact Or.inr rfl) (re_ix (hu1 hr) rfl (re_frz (rn_lst (ra_v re_str (ra_v re_str ra_nil)))) (rp_of (re_callA C__law_take (hr.mono (by omega)) tk (ra_n 0 (pv 0) (ra_v re_int ra_nil))))))
  (ss_cons (s_if (rb_w (rw_and (rb_cmpN (nomark _) op_gtP sn_gt (pv 4) (rp_of re_int)) (rw_and1 (rb_cmp (nomark _) (op_eqP hr.units) sn_eq (re_callA C__law_take (hr.mono (by omega)) tk (ra_n 0 (pv 0) (ra_v re_int ra_nil))) (rp_of re_int)))))
  (ss_one (s_set (i := 6) sc__law_columns.nd rfl (by first | exact Or.inl rfl | exact Or.inr rfl) (re_ix (hu1 hr) rfl (re_ixN (hu1 hr) rfl (pv 3) (rp_of re_int)) (rp_of re_int))))
  ss_nil)
  (ss_one (s_expr (re_lm PySem.F.slot_list_append PySem.F.type_list_append mt_append sn_append rfl (pv 3) (ra_v (re_tup (ra_v (re_var 5 (pv 5)) (ra_v (re_var 6 (pv 6)) (ra_v (re_cmp (nomark _) (op_eqP hr.units) sn_eq (re_callA C__law_take (hr.mono (by omega)) tk (ra_n 0 (pv 0) (ra_v re_int ra_nil))) (rp_of re_int)) ra_nil)))) ra_nil)))))))))
  (ss_one (s_retV 3 (pv 3))))))
abbrev s__law_wrapped : Stmt := top 48
abbrev n__law_wrapped : List Str := ["_law_form_here", "_law_choice"]
theorem sc__law_wrapped : FnScope n__law_wrapped ["_law_form_here", "_law_choice"] (defScope s__law_wrapped) := ⟨rfl, rfl, rfl, by decide +kernel, rfl, by decide +kernel, by decide +kernel⟩
def q__law_wrapped_2  : SM := (retM (tupM (argV (cst (.str "not")) (argV (getv 0) argNil))))
@[simp] theorem e__law_wrapped_2  (ρ : Ev) : q__law_wrapped_2  ρ = (retM (tupM (argV (cst (.str "not")) (argV (getv 0) argNil)))) ρ := (rfl)
def q__law_wrapped_1  : SM := (ifM (asB (binN pyEq 1 (cst (.int 0))))
  q__law_wrapped_2
  skipM)
@[simp] theorem e__law_wrapped_1  (ρ : Ev) : q__law_wrapped_1  ρ = (ifM (asB (binN pyEq 1 (cst (.int 0))))
  q__law_wrapped_2
  skipM) ρ := (rfl)
def q__law_wrapped_4  : SM := (retM (tupM (argV (cst (.str "sure")) (argV (getv 0) argNil))))
@[simp] theorem e__law_wrapped_4  (ρ : Ev) : q__law_wrapped_4  ρ = (retM (tupM (argV (cst (.str "sure")) (argV (getv 0) argNil)))) ρ := (rfl)
def q__law_wrapped_3  : SM := (ifM (asB (binN pyEq 1 (cst (.int 1))))
  q__law_wrapped_4
  skipM)
@[simp] theorem e__law_wrapped_3  (ρ : Ev) : q__law_wrapped_3  ρ = (ifM (asB (binN pyEq 1 (cst (.int 1))))
  q__law_wrapped_4
  skipM) ρ := (rfl)
def q__law_wrapped_5  : SM := (retV 0)
@[simp] theorem e__law_wrapped_5  (ρ : Ev) : q__law_wrapped_5  ρ = (retV 0) ρ := (rfl)
def m__law_wrapped : FM := fnB 2 2
  (seqM q__law_wrapped_1
  (seqM q__law_wrapped_3
  q__law_wrapped_5))
theorem em__law_wrapped (as : List Slot) : m__law_wrapped as = if as.length = 2 then fin 2 as ((seqM q__law_wrapped_1
  (seqM q__law_wrapped_3
  q__law_wrapped_5)) (enter 2 as)) else .stuck := ev_fn _ _ _ as
theorem ok__law_wrapped {P : Program} {w : World} {K : PySem.W.Frag} {mg : Str → Option Value} {base : Heap} (B : BN K mg) (d : DefAt K mg "_law_wrapped" s__law_wrapped ["_law_form_here", "_law_choice"]) : FnAt P w K mg base (DW K mg) 1 "_law_wrapped" ["_law_form_here", "_law_choice"] m__law_wrapped :=
  fn_at d sc__law_wrapped rfl (by decide) fun cdv A outer s H E hr tk =>
  (ss_cons (s_if (rb_cmpN (nomark _) (op_eqP hr.units) sn_eq (pv 1) (rp_of re_int))
  (ss_one (s_ret (re_tup (ra_v re_str (ra_v (re_var 0 (pv 0)) ra_nil)))))
  ss_nil)
  (ss_cons (s_if (rb_cmpN (nomark _) (op_eqP hr.units) sn_eq (pv 1) (rp_of re_int))
  (ss_one (s_ret (re_tup (ra_v re_str (ra_v (re_var 0 (pv 0)) ra_nil)))))
  ss_nil)
  (ss_one (s_retV 0 (pv 0)))))
abbrev s__law_number : Stmt := top 42
abbrev n__law_number : List Str := ["_law_draw", "_law_choice"]
theorem sc__law_number : FnScope n__law_number ["_law_draw"] (defScope s__law_number) := ⟨rfl, rfl, rfl, by decide +kernel, rfl, by decide +kernel, by decide +kernel⟩
def q__law_number_1  : SM := (setM 1 (callE m__law_take (argN 0 (argV (cst (.int 8)) argNil))))
@[simp] theorem e__law_number_1  (ρ : Ev) : q__law_number_1  ρ = (setM 1 (callE m__law_take (argN 0 (argV (cst (.int 8)) argNil)))) ρ := (rfl)
def q__law_number_3  : SM := (retM (bin pyAdd (bin pySub (callE m__law_take (argN 0 (argV (bin pySub (bin pyMul (cst (.int 2)) (bin pyPow (cst (.int 10)) (cst (.int 30)))) (cst (.int 99))) argNil))) (bin pyPow (cst (.int 10)) (cst (.int 30)))) (cst (.int 50))))
@[simp] theorem e__law_number_3  (ρ : Ev) : q__law_number_3  ρ = (retM (bin pyAdd (bin pySub (callE m__law_take (argN 0 (argV (bin pySub (bin pyMul (cst (.int 2)) (bin pyPow (cst (.int 10)) (cst (.int 30)))) (cst (.int 99))) argNil))) (bin pyPow (cst (.int 10)) (cst (.int 30)))) (cst (.int 50)))) ρ := (rfl)
def q__law_number_2  : SM := (ifM (asB (binN pyEq 1 (cst (.int 7))))
  q__law_number_3
  skipM)
@[simp] theorem e__law_number_2  (ρ : Ev) : q__law_number_2  ρ = (ifM (asB (binN pyEq 1 (cst (.int 7))))
  q__law_number_3
  skipM) ρ := (rfl)
def q__law_number_5  : SM := (retM (bin pySub (callE m__law_take (argN 0 (argV (cst (.int 2001)) argNil))) (cst (.int 1000))))
@[simp] theorem e__law_number_5  (ρ : Ev) : q__law_number_5  ρ = (retM (bin pySub (callE m__law_take (argN 0 (argV (cst (.int 2001)) argNil))) (cst (.int 1000)))) ρ := (rfl)
def q__law_number_4  : SM := (ifM (asB (binN pyEq 1 (cst (.int 6))))
  q__law_number_5
  skipM)
@[simp] theorem e__law_number_4  (ρ : Ev) : q__law_number_4  ρ = (ifM (asB (binN pyEq 1 (cst (.int 6))))
  q__law_number_5
  skipM) ρ := (rfl)
def q__law_number_6  : SM := (retM (bin pySub (callE m__law_take (argN 0 (argV (cst (.int 7)) argNil))) (cst (.int 2))))
@[simp] theorem e__law_number_6  (ρ : Ev) : q__law_number_6  ρ = (retM (bin pySub (callE m__law_take (argN 0 (argV (cst (.int 7)) argNil))) (cst (.int 2)))) ρ := (rfl)
def m__law_number : FM := fnB 1 2
  (seqM q__law_number_1
  (seqM q__law_number_2
  (seqM q__law_number_4
  q__law_number_6)))
theorem em__law_number (as : List Slot) : m__law_number as = if as.length = 1 then fin 1 as ((seqM q__law_number_1
  (seqM q__law_number_2
  (seqM q__law_number_4
  q__law_number_6))) (enter 2 as)) else .stuck := ev_fn _ _ _ as
theorem ok__law_number {P : Program} {w : World} {K : PySem.W.Frag} {mg : Str → Option Value} {base : Heap} (B : BN K mg) (C__law_take : FnAt P w K mg base (DW K mg) 1 "_law_take" ["_law_draw", "_law_many"] m__law_take) (d : DefAt K mg "_law_number" s__law_number ["_law_draw"]) : FnAt P w K mg base (DW K mg) 2 "_law_number" ["_law_draw"] m__law_number :=
  fn_at d sc__law_number rfl (by decide) fun cdv A outer s H E hr tk =>
  (ss_cons (s_set (i := 1) sc__law_number.nd rfl (by first | exact Or.inl rfl | exact Or.inr rfl) (re_callA C__law_take (hr.mono (by omega)) tk (ra_n 0 (pv 0) (ra_v re_int ra_nil))))
  (ss_cons (s_if (rb_cmpN (nomark _) (op_eqP hr.units) sn_eq (pv 1) (rp_of re_int))
  (ss_one (s_ret (re_bin op_addP sn_add (re_bin op_subP sn_sub (re_callA C__law_take (hr.mono (by omega)) tk (ra_n 0 (pv 0) (ra_v (re_bin op_subP sn_sub (re_bin op_mulW sn_mul re_int (rp_of (re_bin op_powW sn_pow re_int (rp_of re_int)))) (rp_of re_int)) ra_nil))) (rp_of (re_bin op_powW sn_pow re_int (rp_of re_int)))) (rp_of re_int))))
  ss_nil)
  (ss_cons (s_if (rb_cmpN (nomark _) (op_eqP hr.units) sn_eq (pv 1) (rp_of re_int))
  (ss_one (s_ret (re_bin op_subP sn_sub (re_callA C__law_take (hr.mono (by omega)) tk (ra_n 0 (pv 0) (ra_v re_int ra_nil))) (rp_of re_int))))
  ss_nil)
  (ss_one (s_ret (re_bin op_subP sn_sub (re_callA C__law_take (hr.mono (by omega)) tk (ra_n 0 (pv 0) (ra_v re_int ra_nil))) (rp_of re_int)))))))
abbrev s__law_chars : Stmt := top 41
abbrev n__law_chars : List Str := ["_law_chars_here"]
theorem sc__law_chars : FnScope n__law_chars [] (defScope s__law_chars) := ⟨rfl, rfl, rfl, by decide +kernel, rfl, by decide +kernel, by decide +kernel⟩
def q__law_chars_1  : SM := (setM 0 (cst (.str " !\"#$&'()*+,-./0123456789:;<=>?@ABCDEFGHIJKLMNOPQRSTUVWXYZ[\\]^_`")))
@[simp] theorem e__law_chars_1  (ρ : Ev) : q__law_chars_1  ρ = (setM 0 (cst (.str " !\"#$&'()*+,-./0123456789:;<=>?@ABCDEFGHIJKLMNOPQRSTUVWXYZ[\\]^_`"))) ρ := (rfl)
def q__law_chars_2  : SM := (retM (binN pyAdd 0 (cst (.str "abcdefghijklmnopqrstuvwxyz{|}~"))))
@[simp] theorem e__law_chars_2  (ρ : Ev) : q__law_chars_2  ρ = (retM (binN pyAdd 0 (cst (.str "abcdefghijklmnopqrstuvwxyz{|}~")))) ρ := (rfl)
def m__law_chars : FM := fnB 0 1
  (seqM q__law_chars_1
  q__law_chars_2)
theorem em__law_chars (as : List Slot) : m__law_chars as = if as.length = 0 then fin 0 as ((seqM q__law_chars_1
  q__law_chars_2) (enter 1 as)) else .stuck := ev_fn _ _ _ as
theorem ok__law_chars {P : Program} {w : World} {K : PySem.W.Frag} {mg : Str → Option Value} {base : Heap} (B : BN K mg) (d : DefAt K mg "_law_chars" s__law_chars []) : FnAt P w K mg base (DW K mg) 1 "_law_chars" [] m__law_chars :=
  fn_at d sc__law_chars rfl (by decide) fun cdv A outer s H E hr tk =>
  (ss_cons (s_set (i := 0) sc__law_chars.nd rfl (by first | exact Or.inl rfl | exact Or.inr rfl) re_str)
  (ss_one (s_ret (re_binN op_addP sn_add (pv 0) (rp_of re_str)))))
abbrev s__law_text : Stmt := top 43
abbrev n__law_text : List Str := ["_law_draw", "_law_chars_here", "_law_size", "_law_k"]
theorem sc__law_text : FnScope n__law_text ["_law_draw"] (defScope s__law_text) := ⟨rfl, rfl, rfl, by decide +kernel, rfl, by decide +kernel, by decide +kernel⟩
def q__law_text_1  : SM := (setM 1 (cst (.str " a~b")))
@[simp] theorem e__law_text_1  (ρ : Ev) : q__law_text_1  ρ = (setM 1 (cst (.str " a~b"))) ρ := (rfl)
def q__law_text_2  : SM := (setM 2 (callE m__law_take (argN 0 (argV (cst (.int 4)) argNil))))
@[simp] theorem e__law_text_2  (ρ : Ev) : q__law_text_2  ρ = (setM 2 (callE m__law_take (argN 0 (argV (cst (.int 4)) argNil)))) ρ := (rfl)
def q__law_text_4  : SM := (setM 1 (callE m__law_chars argNil))
@[simp] theorem e__law_text_4  (ρ : Ev) : q__law_text_4  ρ = (setM 1 (callE m__law_chars argNil)) ρ := (rfl)
def q__law_text_5  : SM := (setM 2 (callE m__law_take (argN 0 (argV (cst (.int 39)) argNil))))
@[simp] theorem e__law_text_5  (ρ : Ev) : q__law_text_5  ρ = (setM 2 (callE m__law_take (argN 0 (argV (cst (.int 39)) argNil)))) ρ := (rfl)
def q__law_text_3  : SM := (ifM (asB (bin pyEq (callE m__law_take (argN 0 (argV (cst (.int 6)) argNil))) (cst (.int 5))))
  (seqM q__law_text_4
  q__law_text_5)
  skipM)
@[simp] theorem e__law_text_3  (ρ : Ev) : q__law_text_3  ρ = (ifM (asB (bin pyEq (callE m__law_take (argN 0 (argV (cst (.int 6)) argNil))) (cst (.int 5))))
  (seqM q__law_text_4
  q__law_text_5)
  skipM) ρ := (rfl)
def q__law_text_6  : SM := (retM (strM sJoin (cst (.str "")) (argV (frz (cmpM [3] (itR1 (getv 2)) (tgN 3) noT (binN pyIx 1 (callE m__law_take (argN 0 (argV (callB bLen (argN 1 argNil)) argNil)))))) argNil)))
@[simp] theorem e__law_text_6  (ρ : Ev) : q__law_text_6  ρ = (retM (strM sJoin (cst (.str "")) (argV (frz (cmpM [3] (itR1 (getv 2)) (tgN 3) noT (binN pyIx 1 (callE m__law_take (argN 0 (argV (callB bLen (argN 1 argNil)) argNil)))))) argNil))) ρ := (rfl)
def m__law_text : FM := fnB 1 4
  (seqM q__law_text_1
  (seqM q__law_text_2
  (seqM q__law_text_3
  q__law_text_6)))
theorem em__law_text (as : List Slot) : m__law_text as = if as.length = 1 then fin 1 as ((seqM q__law_text_1
  (seqM q__law_text_2
  (seqM q__law_text_3
  q__law_text_6))) (enter 4 as)) else .stuck := ev_fn _ _ _ as
theorem ok__law_text {P : Program} {w : World} {K : PySem.W.Frag} {mg : Str → Option Value} {base : Heap} (B : BN K mg) (C__law_take : FnAt P w K mg base (DW K mg) 1 "_law_take" ["_law_draw", "_law_many"] m__law_take) (C__law_chars : FnAt P w K mg base (DW K mg) 1 "_law_chars" [] m__law_chars) (d : DefAt K mg "_law_text" s__law_text ["_law_draw"]) : FnAt P w K mg base (DW K mg) 2 "_law_text" ["_law_draw"] m__law_text :=
  fn_at d sc__law_text rfl (by decide) fun cdv A outer s H E hr tk =>
  (ss_cons (s_set (i := 1) sc__law_text.nd rfl (by first | exact Or.inl rfl | exact Or.inr rfl) re_str)
  (ss_cons (s_set (i := 2) sc__law_text.nd rfl (by first | exact Or.inl rfl | exact Or.inr rfl) (re_callA C__law_take (hr.mono (by omega)) tk (ra_n 0 (pv 0) (ra_v re_int ra_nil))))
  (ss_cons (s_if (rb_cmp (nomark _) (op_eqP hr.units) sn_eq (re_callA C__law_take (hr.mono (by omega)) tk (ra_n 0 (pv 0) (ra_v re_int ra_nil))) (rp_of re_int))
  (ss_cons (s_set (i := 1) sc__law_text.nd rfl (by first | exact Or.inl rfl | exact Or.inr rfl) (re_callA0 C__law_chars (hr.mono (by omega)) tk))
  (ss_one (s_set (i := 2) sc__law_text.nd rfl (by first | exact Or.inl rfl | exact Or.inr rfl) (re_callA C__law_take (hr.mono (by omega)) tk (ra_n 0 (pv 0) (ra_v re_int ra_nil))))))
  ss_nil)
  (ss_one (s_ret (re_sm PySem.F.slot_str_join PySem.F.type_str_join mt_join (sn_join rfl) re_str (ra_v (re_frz (rn_lc (own := [("_law_k", 3)]) (tg := (tgN 3)) (hc := rfl) (hN := sc__law_text.nd) (ok := blkOk_by (N := n__law_text) (sc := defScope s__law_text) (by decide +kernel)) (hi := (ri_r1 rfl B.b_range (re_var 2 (pv 2)))) (hg := fun _ _ _ _ _ => (pg_name (i := 3) sc__law_text.nd rfl (by first | exact Or.inl rfl | exact Or.inr rfl))) (ht := fun _ _ _ _ _ => pts_no) (he := fun _ _ _ _ _ => (re_ixN (hu1 hr) rfl (pv 1) (rp_of (re_callA C__law_take (hr.mono (by omega)) takes0 (ra_n 0 (pv 0) (ra_v (re_len rfl (hg := rfl) (hm := B.b_len) (ha := (ra_n 1 (pv 1) ra_nil))) ra_nil)))))) (tk := (tgx_name (by decide))))) ra_nil)))))))
abbrev s__law_value : Stmt := top 44
abbrev n__law_value : List Str := ["_law_draw", "_law_kind"]
theorem sc__law_value : FnScope n__law_value ["_law_draw", "_law_kind"] (defScope s__law_value) := ⟨rfl, rfl, rfl, by decide +kernel, rfl, by decide +kernel, by decide +kernel⟩
def q__law_value_2  : SM := (retM (callE m__law_number (argN 0 argNil)))
@[simp] theorem e__law_value_2  (ρ : Ev) : q__law_value_2  ρ = (retM (callE m__law_number (argN 0 argNil))) ρ := (rfl)
def q__law_value_1  : SM := (ifM (asB (binN pyEq 1 (cst (.str "number"))))
  q__law_value_2
  skipM)
@[simp] theorem e__law_value_1  (ρ : Ev) : q__law_value_1  ρ = (ifM (asB (binN pyEq 1 (cst (.str "number"))))
  q__law_value_2
  skipM) ρ := (rfl)
def q__law_value_3  : SM := (retM (callE m__law_text (argN 0 argNil)))
@[simp] theorem e__law_value_3  (ρ : Ev) : q__law_value_3  ρ = (retM (callE m__law_text (argN 0 argNil))) ρ := (rfl)
def m__law_value : FM := fnB 2 2
  (seqM q__law_value_1
  q__law_value_3)
theorem em__law_value (as : List Slot) : m__law_value as = if as.length = 2 then fin 2 as ((seqM q__law_value_1
  q__law_value_3) (enter 2 as)) else .stuck := ev_fn _ _ _ as
theorem ok__law_value {P : Program} {w : World} {K : PySem.W.Frag} {mg : Str → Option Value} {base : Heap} (B : BN K mg) (C__law_number : FnAt P w K mg base (DW K mg) 2 "_law_number" ["_law_draw"] m__law_number) (C__law_text : FnAt P w K mg base (DW K mg) 2 "_law_text" ["_law_draw"] m__law_text) (d : DefAt K mg "_law_value" s__law_value ["_law_draw", "_law_kind"]) : FnAt P w K mg base (DW K mg) 3 "_law_value" ["_law_draw", "_law_kind"] m__law_value :=
  fn_at d sc__law_value rfl (by decide) fun cdv A outer s H E hr tk =>
  (ss_cons (s_if (rb_cmpN (nomark _) (op_eqP hr.units) sn_eq (pv 1) (rp_of re_str))
  (ss_one (s_ret (re_callA C__law_number (hr.mono (by omega)) tk (ra_n 0 (pv 0) ra_nil))))
  ss_nil)
  (ss_one (s_ret (re_callA C__law_text (hr.mono (by omega)) tk (ra_n 0 (pv 0) ra_nil)))))
abbrev s__law_atom : Stmt := top 47
abbrev n__law_atom : List Str := ["_law_draw", "_law_columns_here", "_law_column", "_law_name_here", "_law_kind", "_law_op", "_law_choice", "_law_others", "_law_one", "_law_k", "_law_added"]
theorem sc__law_atom : FnScope n__law_atom ["_law_draw", "_law_columns_here"] (defScope s__law_atom) := ⟨rfl, rfl, rfl, by decide +kernel, rfl, by decide +kernel, by decide +kernel⟩
def q__law_atom_1  : SM := (setM 2 (binN pyIx 1 (callE m__law_take (argN 0 (argV (callB bLen (argN 1 argNil)) argNil)))))
@[simp] theorem e__law_atom_1  (ρ : Ev) : q__law_atom_1  ρ = (setM 2 (binN pyIx 1 (callE m__law_take (argN 0 (argV (callB bLen (argN 1 argNil)) argNil))))) ρ := (rfl)
def q__law_atom_2  : SM := (setM 3 (binN pyIx 2 (cst (.int 0))))
@[simp] theorem e__law_atom_2  (ρ : Ev) : q__law_atom_2  ρ = (setM 3 (binN pyIx 2 (cst (.int 0)))) ρ := (rfl)
def q__law_atom_3  : SM := (setM 4 (binN pyIx 2 (cst (.int 1))))
@[simp] theorem e__law_atom_3  (ρ : Ev) : q__law_atom_3  ρ = (setM 4 (binN pyIx 2 (cst (.int 1)))) ρ := (rfl)
def q__law_atom_4  : SM := (setM 5 (bin pyIx (frz (lstM (argV (cst (.str "<")) (argV (cst (.str "<=")) (argV (cst (.str "==")) (argV (cst (.str "!=")) (argV (cst (.str ">")) (argV (cst (.str ">=")) argNil)))))))) (callE m__law_take (argN 0 (argV (cst (.int 6)) argNil)))))
@[simp] theorem e__law_atom_4  (ρ : Ev) : q__law_atom_4  ρ = (setM 5 (bin pyIx (frz (lstM (argV (cst (.str "<")) (argV (cst (.str "<=")) (argV (cst (.str "==")) (argV (cst (.str "!=")) (argV (cst (.str ">")) (argV (cst (.str ">=")) argNil)))))))) (callE m__law_take (argN 0 (argV (cst (.int 6)) argNil))))) ρ := (rfl)
def q__law_atom_5  : SM := (setM 6 (callE m__law_take (argN 0 (argV (cst (.int 13)) argNil))))
@[simp] theorem e__law_atom_5  (ρ : Ev) : q__law_atom_5  ρ = (setM 6 (callE m__law_take (argN 0 (argV (cst (.int 13)) argNil)))) ρ := (rfl)
def q__law_atom_6  : SM := (setO 7 (cmpM [8] (itV (getv 1)) (tgN 8) (andM (asB (bin pyEq (binN pyIx 8 (cst (.int 1))) (peek 4))) (asB (bin pyNe (binN pyIx 8 (cst (.int 0))) (peek 3)))) (binN pyIx 8 (cst (.int 0)))))
@[simp] theorem e__law_atom_6  (ρ : Ev) : q__law_atom_6  ρ = (setO 7 (cmpM [8] (itV (getv 1)) (tgN 8) (andM (asB (bin pyEq (binN pyIx 8 (cst (.int 1))) (peek 4))) (asB (bin pyNe (binN pyIx 8 (cst (.int 0))) (peek 3)))) (binN pyIx 8 (cst (.int 0))))) ρ := (rfl)
def q__law_atom_8  : SM := (retM (tupM (argV (cst (.str "always")) argNil)))
@[simp] theorem e__law_atom_8  (ρ : Ev) : q__law_atom_8  ρ = (retM (tupM (argV (cst (.str "always")) argNil))) ρ := (rfl)
def q__law_atom_7  : SM := (ifM (asB (binN pyEq 6 (cst (.int 0))))
  q__law_atom_8
  skipM)
@[simp] theorem e__law_atom_7  (ρ : Ev) : q__law_atom_7  ρ = (ifM (asB (binN pyEq 6 (cst (.int 0))))
  q__law_atom_8
  skipM) ρ := (rfl)
def q__law_atom_10  : SM := (retM (tupM (argV (cst (.str "never")) argNil)))
@[simp] theorem e__law_atom_10  (ρ : Ev) : q__law_atom_10  ρ = (retM (tupM (argV (cst (.str "never")) argNil))) ρ := (rfl)
def q__law_atom_9  : SM := (ifM (asB (binN pyEq 6 (cst (.int 1))))
  q__law_atom_10
  skipM)
@[simp] theorem e__law_atom_9  (ρ : Ev) : q__law_atom_9  ρ = (ifM (asB (binN pyEq 6 (cst (.int 1))))
  q__law_atom_10
  skipM) ρ := (rfl)
def q__law_atom_12  : SM := (retM (tupM (argV (cst (.str "empty")) (argV (getv 3) argNil))))
@[simp] theorem e__law_atom_12  (ρ : Ev) : q__law_atom_12  ρ = (retM (tupM (argV (cst (.str "empty")) (argV (getv 3) argNil)))) ρ := (rfl)
def q__law_atom_11  : SM := (ifM (asB (binN pyEq 6 (cst (.int 2))))
  q__law_atom_12
  skipM)
@[simp] theorem e__law_atom_11  (ρ : Ev) : q__law_atom_11  ρ = (ifM (asB (binN pyEq 6 (cst (.int 2))))
  q__law_atom_12
  skipM) ρ := (rfl)
def q__law_atom_14  : SM := (retM (tupM (argV (cst (.str "among")) (argV (getv 3) (argV (frz (cmpM [9] (itR1 (bin pyAdd (cst (.int 1)) (callE m__law_take (argN 0 (argV (cst (.int 2)) argNil))))) (tgN 9) noT (callE m__law_value (argN 0 (argV (getv 4) argNil))))) argNil)))))
@[simp] theorem e__law_atom_14  (ρ : Ev) : q__law_atom_14  ρ = (retM (tupM (argV (cst (.str "among")) (argV (getv 3) (argV (frz (cmpM [9] (itR1 (bin pyAdd (cst (.int 1)) (callE m__law_take (argN 0 (argV (cst (.int 2)) argNil))))) (tgN 9) noT (callE m__law_value (argN 0 (argV (getv 4) argNil))))) argNil))))) ρ := (rfl)
def q__law_atom_13  : SM := (ifM (asB (binN pyEq 6 (cst (.int 3))))
  q__law_atom_14
  skipM)
@[simp] theorem e__law_atom_13  (ρ : Ev) : q__law_atom_13  ρ = (ifM (asB (binN pyEq 6 (cst (.int 3))))
  q__law_atom_14
  skipM) ρ := (rfl)
def q__law_atom_16  : SM := (retM (tupM (argV (cst (.str "begins")) (argV (getv 3) (argV (callE m__law_text (argN 0 argNil)) argNil)))))
@[simp] theorem e__law_atom_16  (ρ : Ev) : q__law_atom_16  ρ = (retM (tupM (argV (cst (.str "begins")) (argV (getv 3) (argV (callE m__law_text (argN 0 argNil)) argNil))))) ρ := (rfl)
def q__law_atom_15  : SM := (ifM (andM (asB (binN pyEq 6 (cst (.int 4)))) (asB (binN pyEq 4 (cst (.str "text")))))
  q__law_atom_16
  skipM)
@[simp] theorem e__law_atom_15  (ρ : Ev) : q__law_atom_15  ρ = (ifM (andM (asB (binN pyEq 6 (cst (.int 4)))) (asB (binN pyEq 4 (cst (.str "text")))))
  q__law_atom_16
  skipM) ρ := (rfl)
def q__law_atom_18  : SM := (setM 10 (cst (.int 0)))
@[simp] theorem e__law_atom_18  (ρ : Ev) : q__law_atom_18  ρ = (setM 10 (cst (.int 0))) ρ := (rfl)
def q__law_atom_20  : SM := (setM 10 (callE m__law_number (argN 0 argNil)))
@[simp] theorem e__law_atom_20  (ρ : Ev) : q__law_atom_20  ρ = (setM 10 (callE m__law_number (argN 0 argNil))) ρ := (rfl)
def q__law_atom_19  : SM := (ifM (andM (asB (binN pyEq 4 (cst (.str "number")))) (asB (bin pyEq (callE m__law_take (argN 0 (argV (cst (.int 2)) argNil))) (cst (.int 1)))))
  q__law_atom_20
  skipM)
@[simp] theorem e__law_atom_19  (ρ : Ev) : q__law_atom_19  ρ = (ifM (andM (asB (binN pyEq 4 (cst (.str "number")))) (asB (bin pyEq (callE m__law_take (argN 0 (argV (cst (.int 2)) argNil))) (cst (.int 1)))))
  q__law_atom_20
  skipM) ρ := (rfl)
def q__law_atom_21  : SM := (retM (tupM (argV (cst (.str "against")) (argV (getv 3) (argV (getv 5) (argV (binN pyIx 7 (callE m__law_take (argN 0 (argV (callB bLen (argN 7 argNil)) argNil)))) (argV (getv 10) argNil)))))))
@[simp] theorem e__law_atom_21  (ρ : Ev) : q__law_atom_21  ρ = (retM (tupM (argV (cst (.str "against")) (argV (getv 3) (argV (getv 5) (argV (binN pyIx 7 (callE m__law_take (argN 0 (argV (callB bLen (argN 7 argNil)) argNil)))) (argV (getv 10) argNil))))))) ρ := (rfl)
def q__law_atom_17  : SM := (ifM (andM (asB (binN pyGt 6 (cst (.int 8)))) (asB (bin pyGt (callB bLen (argN 7 argNil)) (cst (.int 0)))))
  (seqM q__law_atom_18
  (seqM q__law_atom_19
  q__law_atom_21))
  skipM)
@[simp] theorem e__law_atom_17  (ρ : Ev) : q__law_atom_17  ρ = (ifM (andM (asB (binN pyGt 6 (cst (.int 8)))) (asB (bin pyGt (callB bLen (argN 7 argNil)) (cst (.int 0)))))
  (seqM q__law_atom_18
  (seqM q__law_atom_19
  q__law_atom_21))
  skipM) ρ := (rfl)
def q__law_atom_22  : SM := (retM (tupM (argV (cst (.str "compare")) (argV (getv 3) (argV (getv 5) (argV (callE m__law_value (argN 0 (argV (getv 4) argNil))) argNil))))))
@[simp] theorem e__law_atom_22  (ρ : Ev) : q__law_atom_22  ρ = (retM (tupM (argV (cst (.str "compare")) (argV (getv 3) (argV (getv 5) (argV (callE m__law_value (argN 0 (argV (getv 4) argNil))) argNil)))))) ρ := (rfl)
def m__law_atom : FM := fnB 2 11
  (seqM q__law_atom_1
  (seqM q__law_atom_2
  (seqM q__law_atom_3
  (seqM q__law_atom_4
  (seqM q__law_atom_5
  (seqM q__law_atom_6
  (seqM q__law_atom_7
  (seqM q__law_atom_9
  (seqM q__law_atom_11
  (seqM q__law_atom_13
  (seqM q__law_atom_15
  (seqM q__law_atom_17
  q__law_atom_22))))))))))))
theorem em__law_atom (as : List Slot) : m__law_atom as = if as.length = 2 then fin 2 as ((seqM q__law_atom_1
  (seqM q__law_atom_2
  (seqM q__law_atom_3
  (seqM q__law_atom_4
  (seqM q__law_atom_5
  (seqM q__law_atom_6
  (seqM q__law_atom_7
  (seqM q__law_atom_9
  (seqM q__law_atom_11
  (seqM q__law_atom_13
  (seqM q__law_atom_15
  (seqM q__law_atom_17
  q__law_atom_22)))))))))))) (enter 11 as)) else .stuck := ev_fn _ _ _ as
theorem ok__law_atom {P : Program} {w : World} {K : PySem.W.Frag} {mg : Str → Option Value} {base : Heap} (B : BN K mg) (C__law_take : FnAt P w K mg base (DW K mg) 1 "_law_take" ["_law_draw", "_law_many"] m__law_take) (C__law_value : FnAt P w K mg base (DW K mg) 3 "_law_value" ["_law_draw", "_law_kind"] m__law_value) (C__law_text : FnAt P w K mg base (DW K mg) 2 "_law_text" ["_law_draw"] m__law_text) (C__law_number : FnAt P w K mg base (DW K mg) 2 "_law_number" ["_law_draw"] m__law_number) (d : DefAt K mg "_law_atom" s__law_atom ["_law_draw", "_law_columns_here"]) : FnAt P w K mg base (DW K mg) 4 "_law_atom" ["_law_draw", "_law_columns_here"] m__law_atom :=
  fn_at d sc__law_atom rfl (by decide) fun cdv A outer s H E hr tk =>
  (ss_cons (s_set (i := 2) sc__law_atom.nd rfl (by first | exact Or.inl rfl | exact Or.inr rfl) (re_ixN (hu1 hr) rfl (pv 1) (rp_of (re_callA C__law_take (hr.mono (by omega)) tk (ra_n 0 (pv 0) (ra_v (re_len rfl (hg := rfl) (hm := B.b_len) (ha := (ra_n 1 (pv 1) ra_nil))) ra_nil))))))
  (ss_cons (s_set (i := 3) sc__law_atom.nd rfl (by first | exact Or.inl rfl | exact Or.inr rfl) (re_ixN (hu1 hr) rfl (pv 2) (rp_of re_int)))
  (ss_cons (s_set (i := 4) sc__law_atom.nd rfl (by first | exact Or.inl rfl | exact Or.inr rfl) (re_ixN (hu1 hr) rfl (pv 2) (rp_of re_int)))
  (ss_cons (s_set (i := 5) sc__law_atom.nd rfl (by first | exact Or.inl rfl | exact Or.inr rfl) (re_ix (hu1 hr) rfl (re_frz (rn_lst (ra_v re_str (ra_v re_str (ra_v re_str (ra_v re_str (ra_v re_str (ra_v re_str ra_nil)))))))) (rp_of (re_callA C__law_take (hr.mono (by omega)) tk (ra_n 0 (pv 0) (ra_v re_int ra_nil))))))
  (ss_cons (s_set (i := 6) sc__law_atom.nd rfl (by first | exact Or.inl rfl | exact Or.inr rfl) (re_callA C__law_take (hr.mono (by omega)) tk (ra_n 0 (pv 0) (ra_v re_int ra_nil))))
  (ss_cons (s_setLc (i := 7) (hy := rfl) (hyl := rfl) (hsw := sw_true rfl rfl rfl (by decide +kernel)) (own := [("_law_one", 8)]) (tg := (tgN 8)) (hc := rfl) (hN := sc__law_atom.nd) (ok := blkOk_by (N := n__law_atom) (sc := defScope s__law_atom) (by decide +kernel)) (hi := (ri_v rfl (re_var 1 (pv 1)))) (hg := fun _ _ _ _ _ => (pg_name (i := 8) sc__law_atom.nd rfl (by first | exact Or.inl rfl | exact Or.inr rfl))) (ht := fun _ _ _ _ _ => (pts_t (rb_w (rw_and (rb_cmp (nomark _) (op_eqP hr.units) sn_eq (re_ixN (hu1 hr) rfl (pv 8) (rp_of re_int)) (rp_var 4 (pv 4))) (rw_and1 (rb_cmp (nomark _) (op_neP hr.units) sn_ne (re_ixN (hu1 hr) rfl (pv 8) (rp_of re_int)) (rp_var 3 (pv 3)))))))) (he := fun _ _ _ _ _ => (re_ixN (hu1 hr) rfl (pv 8) (rp_of re_int))) (tk := (tgx_name (by decide))))
  (ss_cons (s_if (rb_cmpN (nomark _) (op_eqP hr.units) sn_eq (pv 6) (rp_of re_int))
  (ss_one (s_ret (re_tup (ra_v re_str ra_nil))))
  ss_nil)
  (ss_cons (s_if (rb_cmpN (nomark _) (op_eqP hr.units) sn_eq (pv 6) (rp_of re_int))
  (ss_one (s_ret (re_tup (ra_v re_str ra_nil))))
  ss_nil)
  (ss_cons (s_if (rb_cmpN (nomark _) (op_eqP hr.units) sn_eq (pv 6) (rp_of re_int))
  (ss_one (s_ret (re_tup (ra_v re_str (ra_v (re_var 3 (pv 3)) ra_nil)))))
  ss_nil)
  (ss_cons (s_if (rb_cmpN (nomark _) (op_eqP hr.units) sn_eq (pv 6) (rp_of re_int))
  (ss_one (s_ret (re_tup (ra_v re_str (ra_v (re_var 3 (pv 3)) (ra_v (re_frz (rn_lc (own := [("_law_k", 9)]) (tg := (tgN 9)) (hc := rfl) (hN := sc__law_atom.nd) (ok := blkOk_by (N := n__law_atom) (sc := defScope s__law_atom) (by decide +kernel)) (hi := (ri_r1 rfl B.b_range (re_bin op_addP sn_add re_int (rp_of (re_callA C__law_take (hr.mono (by omega)) tk (ra_n 0 (pv 0) (ra_v re_int ra_nil))))))) (hg := fun _ _ _ _ _ => (pg_name (i := 9) sc__law_atom.nd rfl (by first | exact Or.inl rfl | exact Or.inr rfl))) (ht := fun _ _ _ _ _ => pts_no) (he := fun _ _ _ _ _ => (re_callA C__law_value (hr.mono (by omega)) takes0 (ra_n 0 (pv 0) (ra_v (re_var 4 (pv 4)) ra_nil)))) (tk := (tgx_name (by decide))))) ra_nil))))))
  ss_nil)
  (ss_cons (s_if (rb_w (rw_and (rb_cmpN (nomark _) (op_eqP hr.units) sn_eq (pv 6) (rp_of re_int)) (rw_and1 (rb_cmpN (nomark _) (op_eqP hr.units) sn_eq (pv 4) (rp_of re_str)))))
  (ss_one (s_ret (re_tup (ra_v re_str (ra_v (re_var 3 (pv 3)) (ra_v (re_callA C__law_text (hr.mono (by omega)) tk (ra_n 0 (pv 0) ra_nil)) ra_nil))))))
  ss_nil)
  (ss_cons (s_if (rb_w (rw_and (rb_cmpN (nomark _) op_gtP sn_gt (pv 6) (rp_of re_int)) (rw_and1 (rb_cmp (nomark _) op_gtP sn_gt (re_len rfl (hg := rfl) (hm := B.b_len) (ha := (ra_n 7 (pv 7) ra_nil))) (rp_of re_int)))))
  (ss_cons (s_set (i := 10) sc__law_atom.nd rfl (by first | exact Or.inl rfl | exact Or.inr rfl) re_int)
  (ss_cons (s_if (rb_w (rw_and (rb_cmpN (nomark _) (op_eqP hr.units) sn_eq (pv 4) (rp_of re_str)) (rw_and1 (rb_cmp (nomark _) (op_eqP hr.units) sn_eq (re_callA C__law_take (hr.mono (by omega)) tk (ra_n 0 (pv 0) (ra_v re_int ra_nil))) (rp_of re_int)))))
  (ss_one (s_set (i := 10) sc__law_atom.nd rfl (by first | exact Or.inl rfl | exact Or.inr rfl) (re_callA C__law_number (hr.mono (by omega)) tk (ra_n 0 (pv 0) ra_nil))))
  ss_nil)
  (ss_one (s_ret (re_tup (ra_v re_str (ra_v (re_var 3 (pv 3)) (ra_v (re_var 5 (pv 5)) (ra_v (re_ixN (hu1 hr) rfl (pv 7) (rp_of (re_callA C__law_take (hr.mono (by omega)) tk (ra_n 0 (pv 0) (ra_v (re_len rfl (hg := rfl) (hm := B.b_len) (ha := (ra_n 7 (pv 7) ra_nil))) ra_nil))))) (ra_v (re_var 10 (pv 10)) ra_nil))))))))))
  ss_nil)
  (ss_one (s_ret (re_tup (ra_v re_str (ra_v (re_var 3 (pv 3)) (ra_v (re_var 5 (pv 5)) (ra_v (re_callA C__law_value (hr.mono (by omega)) tk (ra_n 0 (pv 0) (ra_v (re_var 4 (pv 4)) ra_nil))) ra_nil)))))))))))))))))))
abbrev s__law_form : Stmt := top 49
abbrev n__law_form : List Str := ["_law_draw", "_law_columns_here", "_law_most", "_law_pool", "_law_k", "_law_at", "_law_word", "_law_linked"]
theorem sc__law_form : FnScope n__law_form ["_law_draw", "_law_columns_here", "_law_most"] (defScope s__law_form) := ⟨rfl, rfl, rfl, by decide +kernel, rfl, by decide +kernel, by decide +kernel⟩
def q__law_form_1  : SM := (setO 3 (lstM argNil))
@[simp] theorem e__law_form_1  (ρ : Ev) : q__law_form_1  ρ = (setO 3 (lstM argNil)) ρ := (rfl)
def q__law_form_3  : SM := (exprM (methM lAppend 3 (argV (callE m__law_wrapped (argV (callE m__law_atom (argN 0 (argV (getv 1) argNil))) (argV (callE m__law_take (argN 0 (argV (cst (.int 7)) argNil))) argNil))) argNil)))
@[simp] theorem e__law_form_3  (ρ : Ev) : q__law_form_3  ρ = (exprM (methM lAppend 3 (argV (callE m__law_wrapped (argV (callE m__law_atom (argN 0 (argV (getv 1) argNil))) (argV (callE m__law_take (argN 0 (argV (cst (.int 7)) argNil))) argNil))) argNil))) ρ := (rfl)
def q__law_form_2  : SM := (frM (itR1 (bin pyAdd (cst (.int 1)) (callE m__law_take (argN 0 (argV (getv 2) argNil))))) (tgN 4)
  q__law_form_3)
@[simp] theorem e__law_form_2  (ρ : Ev) : q__law_form_2  ρ = (frM (itR1 (bin pyAdd (cst (.int 1)) (callE m__law_take (argN 0 (argV (getv 2) argNil))))) (tgN 4)
  q__law_form_3) ρ := (rfl)
def q__law_form_5  : SM := (setM 5 (callE m__law_take (argN 0 (argV (bin pySub (callB bLen (argN 3 argNil)) (cst (.int 1))) argNil))))
@[simp] theorem e__law_form_5  (ρ : Ev) : q__law_form_5  ρ = (setM 5 (callE m__law_take (argN 0 (argV (bin pySub (callB bLen (argN 3 argNil)) (cst (.int 1))) argNil)))) ρ := (rfl)
def q__law_form_6  : SM := (setM 6 (bin pyIx (frz (lstM (argV (cst (.str "and")) (argV (cst (.str "or")) argNil)))) (callE m__law_take (argN 0 (argV (cst (.int 2)) argNil)))))
@[simp] theorem e__law_form_6  (ρ : Ev) : q__law_form_6  ρ = (setM 6 (bin pyIx (frz (lstM (argV (cst (.str "and")) (argV (cst (.str "or")) argNil)))) (callE m__law_take (argN 0 (argV (cst (.int 2)) argNil))))) ρ := (rfl)
def q__law_form_7  : SM := (setM 7 (callE m__law_wrapped (argV (tupM (argV (getv 6) (argV (binN pyIx 3 (peek 5)) (argV (binN pyIx 3 (binN pyAdd 5 (cst (.int 1)))) argNil)))) (argV (callE m__law_take (argN 0 (argV (cst (.int 7)) argNil))) argNil))))
@[simp] theorem e__law_form_7  (ρ : Ev) : q__law_form_7  ρ = (setM 7 (callE m__law_wrapped (argV (tupM (argV (getv 6) (argV (binN pyIx 3 (peek 5)) (argV (binN pyIx 3 (binN pyAdd 5 (cst (.int 1)))) argNil)))) (argV (callE m__law_take (argN 0 (argV (cst (.int 7)) argNil))) argNil)))) ρ := (rfl)
def q__law_form_8  : SM := (setM 3 (bin pyAdd (bin pyAdd (slN 3 noP (someP (getv 5))) (frz (lstM (argV (getv 7) argNil)))) (slN 3 (someP (binN pyAdd 5 (cst (.int 2)))) noP)))
@[simp] theorem e__law_form_8  (ρ : Ev) : q__law_form_8  ρ = (setM 3 (bin pyAdd (bin pyAdd (slN 3 noP (someP (getv 5))) (frz (lstM (argV (getv 7) argNil)))) (slN 3 (someP (binN pyAdd 5 (cst (.int 2)))) noP))) ρ := (rfl)
def q__law_form_4  : SM := (frM (itR1 (bin pySub (callB bLen (argN 3 argNil)) (cst (.int 1)))) (tgN 4)
  (seqM q__law_form_5
  (seqM q__law_form_6
  (seqM q__law_form_7
  q__law_form_8))))
@[simp] theorem e__law_form_4  (ρ : Ev) : q__law_form_4  ρ = (frM (itR1 (bin pySub (callB bLen (argN 3 argNil)) (cst (.int 1)))) (tgN 4)
  (seqM q__law_form_5
  (seqM q__law_form_6
  (seqM q__law_form_7
  q__law_form_8)))) ρ := (rfl)
def q__law_form_9  : SM := (retM (binN pyIx 3 (cst (.int 0))))
@[simp] theorem e__law_form_9  (ρ : Ev) : q__law_form_9  ρ = (retM (binN pyIx 3 (cst (.int 0)))) ρ := (rfl)
def m__law_form : FM := fnB 3 8
  (seqM q__law_form_1
  (seqM q__law_form_2
  (seqM q__law_form_4
  q__law_form_9)))
theorem em__law_form (as : List Slot) : m__law_form as = if as.length = 3 then fin 3 as ((seqM q__law_form_1
  (seqM q__law_form_2
  (seqM q__law_form_4
  q__law_form_9))) (enter 8 as)) else .stuck := ev_fn _ _ _ as
theorem ok__law_form {P : Program} {w : World} {K : PySem.W.Frag} {mg : Str → Option Value} {base : Heap} (B : BN K mg) (C__law_take : FnAt P w K mg base (DW K mg) 1 "_law_take" ["_law_draw", "_law_many"] m__law_take) (C__law_wrapped : FnAt P w K mg base (DW K mg) 1 "_law_wrapped" ["_law_form_here", "_law_choice"] m__law_wrapped) (C__law_atom : FnAt P w K mg base (DW K mg) 4 "_law_atom" ["_law_draw", "_law_columns_here"] m__law_atom) (d : DefAt K mg "_law_form" s__law_form ["_law_draw", "_law_columns_here", "_law_most"]) : FnAt P w K mg base (DW K mg) 5 "_law_form" ["_law_draw", "_law_columns_here", "_law_most"] m__law_form :=
  fn_at d sc__law_form rfl (by decide) fun cdv A outer s H E hr tk =>
  (ss_cons (s_setO (i := 3) sc__law_form.nd rfl (by first | exact Or.inl rfl | exact Or.inr rfl) (rn_lst ra_nil))
  (ss_cons (s_fr (passes_of rfl) rfl (ri_r1 rfl B.b_range (re_bin op_addP sn_add re_int (rp_of (re_callA C__law_take (hr.mono (by omega)) tk (ra_n 0 (pv 0) (ra_v (re_var 2 (pv 2)) ra_nil)))))) (pg_name (i := 4) sc__law_form.nd rfl (by first | exact Or.inl rfl | exact Or.inr rfl)) (vs := [4]) (tgx_name (by decide))
  (ss_one (s_expr (re_lm PySem.F.slot_list_append PySem.F.type_list_append mt_append sn_append rfl (pv 3) (ra_v (re_callA C__law_wrapped (hr.mono (by omega)) tk (ra_v (re_callA C__law_atom (hr.mono (by omega)) tk (ra_n 0 (pv 0) (ra_v (re_var 1 (pv 1)) ra_nil))) (ra_v (re_callA C__law_take (hr.mono (by omega)) tk (ra_n 0 (pv 0) (ra_v re_int ra_nil))) ra_nil))) ra_nil)))))
  (ss_cons (s_fr (passes_of rfl) rfl (ri_r1 rfl B.b_range (re_bin op_subP sn_sub (re_len rfl (hg := rfl) (hm := B.b_len) (ha := (ra_n 3 (pv 3) ra_nil))) (rp_of re_int))) (pg_name (i := 4) sc__law_form.nd rfl (by first | exact Or.inl rfl | exact Or.inr rfl)) (vs := [4]) (tgx_name (by decide))
  (ss_cons (s_set (i := 5) sc__law_form.nd rfl (by first | exact Or.inl rfl | exact Or.inr rfl) (re_callA C__law_take (hr.mono (by omega)) tk (ra_n 0 (pv 0) (ra_v (re_bin op_subP sn_sub (re_len rfl (hg := rfl) (hm := B.b_len) (ha := (ra_n 3 (pv 3) ra_nil))) (rp_of re_int)) ra_nil))))
  (ss_cons (s_set (i := 6) sc__law_form.nd rfl (by first | exact Or.inl rfl | exact Or.inr rfl) (re_ix (hu1 hr) rfl (re_frz (rn_lst (ra_v re_str (ra_v re_str ra_nil)))) (rp_of (re_callA C__law_take (hr.mono (by omega)) tk (ra_n 0 (pv 0) (ra_v re_int ra_nil))))))
  (ss_cons (s_set (i := 7) sc__law_form.nd rfl (by first | exact Or.inl rfl | exact Or.inr rfl) (re_callA C__law_wrapped (hr.mono (by omega)) tk (ra_v (re_tup (ra_v (re_var 6 (pv 6)) (ra_v (re_ixN (hu1 hr) rfl (pv 3) (rp_var 5 (pv 5))) (ra_v (re_ixN (hu1 hr) rfl (pv 3) (rp_of (re_binN op_addP sn_add (pv 5) (rp_of re_int)))) ra_nil)))) (ra_v (re_callA C__law_take (hr.mono (by omega)) tk (ra_n 0 (pv 0) (ra_v re_int ra_nil))) ra_nil))))
  (ss_one (s_set (i := 3) sc__law_form.nd rfl (by first | exact Or.inl rfl | exact Or.inr rfl) (re_bin op_addP sn_add (re_bin op_addP sn_add (re_slN rfl (pv 3) ro_none (ro_some (re_var 5 (pv 5)))) (rp_of (re_frz (rn_lst (ra_v (re_var 7 (pv 7)) ra_nil))))) (rp_of (re_slN rfl (pv 3) (ro_some (re_binN op_addP sn_add (pv 5) (rp_of re_int))) ro_none)))))))))
  (ss_one (s_ret (re_ixN (hu1 hr) rfl (pv 3) (rp_of re_int)))))))
abbrev s_BadTest____init__ : Stmt := inCls (top 3) 0
abbrev n_BadTest____init__ : List Str := ["self", "why"]
theorem sc_BadTest____init__ : FnScope n_BadTest____init__ ["self", "why"] (defScope s_BadTest____init__) := ⟨rfl, rfl, rfl, by decide +kernel, rfl, by decide +kernel, by decide +kernel⟩
theorem ok_BadTest____init__ {P : Program} {w : World} {K : PySem.W.Frag} {mg : Str → Option Value} {base : Heap} (B : BN K mg) (d : DefXc K mg (DW K mg) 24 "BadTest" "BadTest.__init__" s_BadTest____init__ ["self", "why"] ["why"]) : XcAt P w K mg base (DW K mg) 1 24 "BadTest" ["why"] :=
  xc_1 d sc_BadTest____init__ fun cdv A outer s H E => (pss_one (ps_xt (pv 0) (pv 1)))
abbrev s_Test__atoms : Stmt := inCls (top 19) 4
abbrev n_Test__atoms : List Str := ["self", "part", "atom"]
theorem sc_Test__atoms : FnScope n_Test__atoms ["self"] (defScope s_Test__atoms) := ⟨rfl, rfl, rfl, by decide +kernel, rfl, by decide +kernel, by decide +kernel⟩
def q_Test__atoms_2 (r_Test__atoms : FM) : SM := (retO (lstM (argV (getv 0) argNil)))
@[simp] theorem e_Test__atoms_2 (r_Test__atoms : FM) (ρ : Ev) : q_Test__atoms_2 r_Test__atoms ρ = (retO (lstM (argV (getv 0) argNil))) ρ := (rfl)
def q_Test__atoms_1 (r_Test__atoms : FM) : SM := (ifM (notM (truM (fldM [3] "_parts" (peek 0))))
  (q_Test__atoms_2 r_Test__atoms)
  skipM)
@[simp] theorem e_Test__atoms_1 (r_Test__atoms : FM) (ρ : Ev) : q_Test__atoms_1 r_Test__atoms ρ = (ifM (notM (truM (fldM [3] "_parts" (peek 0))))
  (q_Test__atoms_2 r_Test__atoms)
  skipM) ρ := (rfl)
def q_Test__atoms_3 (r_Test__atoms : FM) : SM := (retO (cmp2M [1, 2] (itV (fldM [3] "_parts" (peek 0))) (tgN 1) (bod2 noT [2] (itV (mthE [(3, r_Test__atoms)] "atoms" (selfN 1) argNil)) (tgN 2) noT (getv 2))))
@[simp] theorem e_Test__atoms_3 (r_Test__atoms : FM) (ρ : Ev) : q_Test__atoms_3 r_Test__atoms ρ = (retO (cmp2M [1, 2] (itV (fldM [3] "_parts" (peek 0))) (tgN 1) (bod2 noT [2] (itV (mthE [(3, r_Test__atoms)] "atoms" (selfN 1) argNil)) (tgN 2) noT (getv 2)))) ρ := (rfl)
def b_Test__atoms (r_Test__atoms : FM) : FM := fnB 1 3
  (seqM (q_Test__atoms_1 r_Test__atoms)
  (q_Test__atoms_3 r_Test__atoms))
mutual
def m_Test__atoms : Nat → FM
  | 0 => stF
  | n + 1 => b_Test__atoms (m_Test__atoms n)
end
theorem em_Test__atoms (n : Nat) (as : List Slot) : m_Test__atoms (n + 1) as = if as.length = 1 then fin 1 as ((seqM (q_Test__atoms_1 (m_Test__atoms n))
  (q_Test__atoms_3 (m_Test__atoms n))) (enter 3 as)) else .stuck := by
  rw [m_Test__atoms]
  exact ev_fn _ _ _ as
theorem okb_Test__atoms {P : Program} {w : World} {K : PySem.W.Frag} {mg : Str → Option Value} {base : Heap} {k : Nat} (hk : 0 ≤ k) (r_Test__atoms : FM) (B : BN K mg) (C_Test__atoms : MtAt P w K mg base (DW K mg) k "atoms" 3 r_Test__atoms) (d : DefMt K (DW K mg) 3 "atoms" "Test.atoms" s_Test__atoms ["self"]) : MtAt P w K mg base (DW K mg) (k + 1) "atoms" 3 (b_Test__atoms r_Test__atoms) :=
  mt_at d sc_Test__atoms rfl (by decide) fun cdv A outer s H E hr tk =>
  (ss_cons (s_if (rb_not (rb_truth (rp_of (re_fld rfl (rp_var 0 (pv 0)) (cfs_cons B.f_3__parts cfs_nil))) rfl))
  (ss_one (s_retO (rn_lst (ra_v (re_var 0 (pv 0)) ra_nil))))
  ss_nil)
  (ss_one (s_retO (rn_lc2 (own := [("part", 1), ("atom", 2)]) (tg := (tgN 1)) (hc := rfl) (hN := sc_Test__atoms.nd) (ok := blkOk_by (N := n_Test__atoms) (sc := defScope s_Test__atoms) (by decide +kernel)) (hi := (ri_v rfl (re_fld rfl (rp_var 0 (pv 0)) (cfs_cons B.f_3__parts cfs_nil)))) (hg := fun _ _ _ _ _ => (pg_name (i := 1) sc_Test__atoms.nd rfl (by first | exact Or.inl rfl | exact Or.inr rfl))) (ht := fun _ _ _ _ _ => pts_no) (he := fun _ _ _ _ _ => (re_var 2 (pv 2))) (vs1 := [2]) (tg1 := (tgN 2)) (hv := by decide) (tk := (tgx_name (by decide))) (tk1 := (tgx_name (by decide))) (hi1 := fun _ _ _ _ _ => (ri_v rfl (re_mth0 (tbl_cons (C_Test__atoms.mono (by omega)) tbl_nil) hr takes0 (rs_n 1 (pv 1))))) (hg1 := fun _ _ _ _ _ => (pg_name (i := 2) sc_Test__atoms.nd rfl (by first | exact Or.inl rfl | exact Or.inr rfl))) (ht1 := fun _ _ _ _ _ => pts_no)))))
theorem oks_Test__atoms {P : Program} {w : World} {K : PySem.W.Frag} {mg : Str → Option Value} {base : Heap} (B : BN K mg) (d_Test__atoms : DefMt K (DW K mg) 3 "atoms" "Test.atoms" s_Test__atoms ["self"]) : ∀ n : Nat, (MtAt P w K mg base (DW K mg) (0 + n) "atoms" 3 (m_Test__atoms n))
  | 0 => (by rw [m_Test__atoms]; exact mt_stk d_Test__atoms)
  | n + 1 => by
    have i_Test__atoms := oks_Test__atoms (P := P) (w := w) (base := base) B d_Test__atoms n
    exact (by rw [m_Test__atoms]; exact okb_Test__atoms (Nat.le_add_right _ _) _ B i_Test__atoms d_Test__atoms)
theorem ok_Test__atoms {P : Program} {w : World} {K : PySem.W.Frag} {mg : Str → Option Value} {base : Heap} (B : BN K mg) (d_Test__atoms : DefMt K (DW K mg) 3 "atoms" "Test.atoms" s_Test__atoms ["self"]) : MtAt P w K mg base (DW K mg) 40 "atoms" 3 (m_Test__atoms 40) := (oks_Test__atoms B d_Test__atoms 40)
abbrev s_Test__levels : Stmt := inCls (top 19) 5
abbrev n_Test__levels : List Str := ["self", "result", "part"]
theorem sc_Test__levels : FnScope n_Test__levels ["self"] (defScope s_Test__levels) := ⟨rfl, rfl, rfl, by decide +kernel, rfl, by decide +kernel, by decide +kernel⟩
def q_Test__levels_1 (r_Test__levels : FM) : SM := (setM 1 (cst (.int 0)))
@[simp] theorem e_Test__levels_1 (r_Test__levels : FM) (ρ : Ev) : q_Test__levels_1 r_Test__levels ρ = (setM 1 (cst (.int 0))) ρ := (rfl)
def q_Test__levels_3 (r_Test__levels : FM) : SM := (setM 1 (callB bMax (argN 1 (argV (bin pyAdd (callB bInt (argV (mthE [(3, r_Test__levels)] "levels" (selfN 2) argNil) argNil)) (cst (.int 1))) argNil))))
@[simp] theorem e_Test__levels_3 (r_Test__levels : FM) (ρ : Ev) : q_Test__levels_3 r_Test__levels ρ = (setM 1 (callB bMax (argN 1 (argV (bin pyAdd (callB bInt (argV (mthE [(3, r_Test__levels)] "levels" (selfN 2) argNil) argNil)) (cst (.int 1))) argNil)))) ρ := (rfl)
def q_Test__levels_2 (r_Test__levels : FM) : SM := (frM (itV (fldM [3] "_parts" (peek 0))) (tgN 2)
  (q_Test__levels_3 r_Test__levels))
@[simp] theorem e_Test__levels_2 (r_Test__levels : FM) (ρ : Ev) : q_Test__levels_2 r_Test__levels ρ = (frM (itV (fldM [3] "_parts" (peek 0))) (tgN 2)
  (q_Test__levels_3 r_Test__levels)) ρ := (rfl)
def q_Test__levels_4 (r_Test__levels : FM) : SM := (retV 1)
@[simp] theorem e_Test__levels_4 (r_Test__levels : FM) (ρ : Ev) : q_Test__levels_4 r_Test__levels ρ = (retV 1) ρ := (rfl)
def b_Test__levels (r_Test__levels : FM) : FM := fnB 1 3
  (seqM (q_Test__levels_1 r_Test__levels)
  (seqM (q_Test__levels_2 r_Test__levels)
  (q_Test__levels_4 r_Test__levels)))
mutual
def m_Test__levels : Nat → FM
  | 0 => stF
  | n + 1 => b_Test__levels (m_Test__levels n)
end
theorem em_Test__levels (n : Nat) (as : List Slot) : m_Test__levels (n + 1) as = if as.length = 1 then fin 1 as ((seqM (q_Test__levels_1 (m_Test__levels n))
  (seqM (q_Test__levels_2 (m_Test__levels n))
  (q_Test__levels_4 (m_Test__levels n)))) (enter 3 as)) else .stuck := by
  rw [m_Test__levels]
  exact ev_fn _ _ _ as
theorem okb_Test__levels {P : Program} {w : World} {K : PySem.W.Frag} {mg : Str → Option Value} {base : Heap} {k : Nat} (hk : 0 ≤ k) (r_Test__levels : FM) (B : BN K mg) (C_Test__levels : MtAt P w K mg base (DW K mg) k "levels" 3 r_Test__levels) (d : DefMt K (DW K mg) 3 "levels" "Test.levels" s_Test__levels ["self"]) : MtAt P w K mg base (DW K mg) (k + 1) "levels" 3 (b_Test__levels r_Test__levels) :=
  mt_at d sc_Test__levels rfl (by decide) fun cdv A outer s H E hr tk =>
  (ss_cons (s_set (i := 1) sc_Test__levels.nd rfl (by first | exact Or.inl rfl | exact Or.inr rfl) re_int)
  (ss_cons (s_fr (passes_of rfl) rfl (ri_v rfl (re_fld rfl (rp_var 0 (pv 0)) (cfs_cons B.f_3__parts cfs_nil))) (pg_name (i := 2) sc_Test__levels.nd rfl (by first | exact Or.inl rfl | exact Or.inr rfl)) (vs := [2]) (tgx_name (by decide))
  (ss_one (s_set (i := 1) sc_Test__levels.nd rfl (by first | exact Or.inl rfl | exact Or.inr rfl) (re_max2 (hc := rfl) (hg := rfl) (hm := B.b_max) (ha := (ra_n 1 (pv 1) (ra_v (re_bin op_addP sn_add (re_int1 (hg := rfl) (hm := B.b_int) (ha := (ra_v (re_mth0 (tbl_cons (C_Test__levels.mono (by omega)) tbl_nil) hr tk (rs_n 2 (pv 2))) ra_nil))) (rp_of re_int)) ra_nil)))))))
  (ss_one (s_retV 1 (pv 1)))))
theorem oks_Test__levels {P : Program} {w : World} {K : PySem.W.Frag} {mg : Str → Option Value} {base : Heap} (B : BN K mg) (d_Test__levels : DefMt K (DW K mg) 3 "levels" "Test.levels" s_Test__levels ["self"]) : ∀ n : Nat, (MtAt P w K mg base (DW K mg) (0 + n) "levels" 3 (m_Test__levels n))
  | 0 => (by rw [m_Test__levels]; exact mt_stk d_Test__levels)
  | n + 1 => by
    have i_Test__levels := oks_Test__levels (P := P) (w := w) (base := base) B d_Test__levels n
    exact (by rw [m_Test__levels]; exact okb_Test__levels (Nat.le_add_right _ _) _ B i_Test__levels d_Test__levels)
theorem ok_Test__levels {P : Program} {w : World} {K : PySem.W.Frag} {mg : Str → Option Value} {base : Heap} (B : BN K mg) (d_Test__levels : DefMt K (DW K mg) 3 "levels" "Test.levels" s_Test__levels ["self"]) : MtAt P w K mg base (DW K mg) 40 "levels" 3 (m_Test__levels 40) := (oks_Test__levels B d_Test__levels 40)
abbrev s_limited : Stmt := top 20
abbrev n_limited : List Str := ["test"]
theorem sc_limited : FnScope n_limited ["test"] (defScope s_limited) := ⟨rfl, rfl, rfl, by decide +kernel, rfl, by decide +kernel, by decide +kernel⟩
def q_limited_2  : SM := (raiseM 24 ["why"] (argV (cst (.str "large")) argNil))
@[simp] theorem e_limited_2  (ρ : Ev) : q_limited_2  ρ = (raiseM 24 ["why"] (argV (cst (.str "large")) argNil)) ρ := (rfl)
def q_limited_1  : SM := (ifM (asB (bin pyGt (callB bLen (argV (mthE [(3, (m_Test__atoms 40))] "atoms" (selfN 0) argNil) argNil)) (cst (.int 24))))
  q_limited_2
  skipM)
@[simp] theorem e_limited_1  (ρ : Ev) : q_limited_1  ρ = (ifM (asB (bin pyGt (callB bLen (argV (mthE [(3, (m_Test__atoms 40))] "atoms" (selfN 0) argNil) argNil)) (cst (.int 24))))
  q_limited_2
  skipM) ρ := (rfl)
def q_limited_4  : SM := (raiseM 24 ["why"] (argV (cst (.str "deep")) argNil))
@[simp] theorem e_limited_4  (ρ : Ev) : q_limited_4  ρ = (raiseM 24 ["why"] (argV (cst (.str "deep")) argNil)) ρ := (rfl)
def q_limited_3  : SM := (ifM (asB (bin pyGt (callB bInt (argV (mthE [(3, (m_Test__levels 40))] "levels" (selfN 0) argNil) argNil)) (cst (.int 12))))
  q_limited_4
  skipM)
@[simp] theorem e_limited_3  (ρ : Ev) : q_limited_3  ρ = (ifM (asB (bin pyGt (callB bInt (argV (mthE [(3, (m_Test__levels 40))] "levels" (selfN 0) argNil) argNil)) (cst (.int 12))))
  q_limited_4
  skipM) ρ := (rfl)
def q_limited_5  : SM := (retV 0)
@[simp] theorem e_limited_5  (ρ : Ev) : q_limited_5  ρ = (retV 0) ρ := (rfl)
def m_limited : FM := fnB 1 1
  (seqM q_limited_1
  (seqM q_limited_3
  q_limited_5))
theorem em_limited (as : List Slot) : m_limited as = if as.length = 1 then fin 1 as ((seqM q_limited_1
  (seqM q_limited_3
  q_limited_5)) (enter 1 as)) else .stuck := ev_fn _ _ _ as
theorem ok_limited {P : Program} {w : World} {K : PySem.W.Frag} {mg : Str → Option Value} {base : Heap} (B : BN K mg) (C_Test__atoms : MtAt P w K mg base (DW K mg) 40 "atoms" 3 (m_Test__atoms 40)) (C_BadTest____init__ : XcAt P w K mg base (DW K mg) 1 24 "BadTest" ["why"]) (C_Test__levels : MtAt P w K mg base (DW K mg) 40 "levels" 3 (m_Test__levels 40)) (d : DefAt K mg "limited" s_limited ["test"]) : FnAt P w K mg base (DW K mg) 42 "limited" ["test"] m_limited :=
  fn_at d sc_limited rfl (by decide) fun cdv A outer s H E hr tk =>
  (ss_cons (s_if (rb_cmp (nomark _) op_gtP sn_gt (re_len rfl (hg := rfl) (hm := B.b_len) (ha := (ra_v (re_mth0 (tbl_cons (C_Test__atoms.mono (by omega)) tbl_nil) hr tk (rs_n 0 (pv 0))) ra_nil))) (rp_of (re_glob B.g_MOST_ATOMS)))
  (ss_one (s_raise C_BadTest____init__ (by simp) (hr.mono (by omega)) tk (ra_v re_str ra_nil)))
  ss_nil)
  (ss_cons (s_if (rb_cmp (nomark _) op_gtP sn_gt (re_int1 (hg := rfl) (hm := B.b_int) (ha := (ra_v (re_mth0 (tbl_cons (C_Test__levels.mono (by omega)) tbl_nil) hr tk (rs_n 0 (pv 0))) ra_nil))) (rp_of (re_glob B.g_MOST_LEVELS)))
  (ss_one (s_raise C_BadTest____init__ (by simp) (hr.mono (by omega)) tk (ra_v re_str ra_nil)))
  ss_nil)
  (ss_one (s_retV 0 (pv 0)))))
abbrev s_Test____init__ : Stmt := inCls (top 19) 0
abbrev n_Test____init__ : List Str := ["self", "kind", "data", "parts"]
theorem sc_Test____init__ : FnScope n_Test____init__ ["self", "kind", "data", "parts"] (defScope s_Test____init__) := ⟨rfl, rfl, rfl, by decide +kernel, rfl, by decide +kernel, by decide +kernel⟩
def q_Test____init___1  : SM := (setFld 0 [3] "_kind" (getv 1))
@[simp] theorem e_Test____init___1  (ρ : Ev) : q_Test____init___1  ρ = (setFld 0 [3] "_kind" (getv 1)) ρ := (rfl)
def q_Test____init___2  : SM := (setFld 0 [3] "_data" (getv 2))
@[simp] theorem e_Test____init___2  (ρ : Ev) : q_Test____init___2  ρ = (setFld 0 [3] "_data" (getv 2)) ρ := (rfl)
def q_Test____init___3  : SM := (setFld 0 [3] "_parts" (getv 3))
@[simp] theorem e_Test____init___3  (ρ : Ev) : q_Test____init___3  ρ = (setFld 0 [3] "_parts" (getv 3)) ρ := (rfl)
def m_Test____init__ : FM := fnB 4 4
  (seqM q_Test____init___1
  (seqM q_Test____init___2
  q_Test____init___3))
theorem em_Test____init__ (as : List Slot) : m_Test____init__ as = if as.length = 4 then fin 4 as ((seqM q_Test____init___1
  (seqM q_Test____init___2
  q_Test____init___3)) (enter 4 as)) else .stuck := ev_fn _ _ _ as
theorem ok_Test____init__ {P : Program} {w : World} {K : PySem.W.Frag} {mg : Str → Option Value} {base : Heap} (B : BN K mg) (d : DefMk K mg (DW K mg) 3 "Test" "Test.__init__" s_Test____init__ ["self", "kind", "data", "parts"]) : MkAt P w K mg base (DW K mg) 1 3 "Test" m_Test____init__ :=
  mk_at d sc_Test____init__ rfl (by decide) fun cdv A outer s H E hr tk =>
  (ss_cons (s_fld (i := 0) rfl (pv 0) (cfs_cons B.f_3__kind cfs_nil) (re_var 1 (pv 1)))
  (ss_cons (s_fld (i := 0) rfl (pv 0) (cfs_cons B.f_3__data cfs_nil) (re_var 2 (pv 2)))
  (ss_one (s_fld (i := 0) rfl (pv 0) (cfs_cons B.f_3__parts cfs_nil) (re_var 3 (pv 3))))))
abbrev s_combine : Stmt := top 21
abbrev n_combine : List Str := ["kind", "one", "other"]
theorem sc_combine : FnScope n_combine ["kind", "one", "other"] (defScope s_combine) := ⟨rfl, rfl, rfl, by decide +kernel, rfl, by decide +kernel, by decide +kernel⟩
def q_combine_2  : SM := (raiseM 24 ["why"] (argV (cst (.str "part")) argNil))
@[simp] theorem e_combine_2  (ρ : Ev) : q_combine_2  ρ = (raiseM 24 ["why"] (argV (cst (.str "part")) argNil)) ρ := (rfl)
def q_combine_1  : SM := (ifM (notM (truM (isCM (peek 2) [3])))
  q_combine_2
  skipM)
@[simp] theorem e_combine_1  (ρ : Ev) : q_combine_1  ρ = (ifM (notM (truM (isCM (peek 2) [3])))
  q_combine_2
  skipM) ρ := (rfl)
def q_combine_3  : SM := (retM (callE m_limited (argV (frz (mkM 3 m_Test____init__ (argV (getv 0) (argV (tupM argNil) (argV (tupM (argV (getv 1) (argV (getv 2) argNil))) argNil))))) argNil)))
@[simp] theorem e_combine_3  (ρ : Ev) : q_combine_3  ρ = (retM (callE m_limited (argV (frz (mkM 3 m_Test____init__ (argV (getv 0) (argV (tupM argNil) (argV (tupM (argV (getv 1) (argV (getv 2) argNil))) argNil))))) argNil))) ρ := (rfl)
def m_combine : FM := fnB 3 3
  (seqM q_combine_1
  q_combine_3)
theorem em_combine (as : List Slot) : m_combine as = if as.length = 3 then fin 3 as ((seqM q_combine_1
  q_combine_3) (enter 3 as)) else .stuck := ev_fn _ _ _ as
theorem ok_combine {P : Program} {w : World} {K : PySem.W.Frag} {mg : Str → Option Value} {base : Heap} (B : BN K mg) (C_BadTest____init__ : XcAt P w K mg base (DW K mg) 1 24 "BadTest" ["why"]) (C_limited : FnAt P w K mg base (DW K mg) 42 "limited" ["test"] m_limited) (C_Test____init__ : MkAt P w K mg base (DW K mg) 1 3 "Test" m_Test____init__) (d : DefAt K mg "combine" s_combine ["kind", "one", "other"]) : FnAt P w K mg base (DW K mg) 44 "combine" ["kind", "one", "other"] m_combine :=
  fn_at d sc_combine rfl (by decide) fun cdv A outer s H E hr tk =>
  (ss_cons (s_if (rb_not (rb_truth (rp_of (re_isc B.hT B.i_Test rfl (rp_var 2 (pv 2)) rfl B.b_isinstance)) rfl))
  (ss_one (s_raise C_BadTest____init__ (by simp) (hr.mono (by omega)) tk (ra_v re_str ra_nil)))
  ss_nil)
  (ss_one (s_ret (re_callA C_limited (hr.mono (by omega)) tk (ra_v (re_frz (rn_mk C_Test____init__ (hr.mono (by omega)) tk (ra_v (re_var 0 (pv 0)) (ra_v (re_tup ra_nil) (ra_v (re_tup (ra_v (re_var 1 (pv 1)) (ra_v (re_var 2 (pv 2)) ra_nil))) ra_nil))))) ra_nil)))))
abbrev s_Test____and__ : Stmt := inCls (top 19) 9
abbrev n_Test____and__ : List Str := ["self", "other"]
theorem sc_Test____and__ : FnScope n_Test____and__ ["self", "other"] (defScope s_Test____and__) := ⟨rfl, rfl, rfl, by decide +kernel, rfl, by decide +kernel, by decide +kernel⟩
def q_Test____and___1  : SM := (retM (callE m_combine (argV (cst (.str "and")) (argV (getv 0) (argV (getv 1) argNil)))))
@[simp] theorem e_Test____and___1  (ρ : Ev) : q_Test____and___1  ρ = (retM (callE m_combine (argV (cst (.str "and")) (argV (getv 0) (argV (getv 1) argNil))))) ρ := (rfl)
def m_Test____and__ : FM := fnB 2 2
  q_Test____and___1
theorem em_Test____and__ (as : List Slot) : m_Test____and__ as = if as.length = 2 then fin 2 as (q_Test____and___1 (enter 2 as)) else .stuck := ev_fn _ _ _ as
theorem ok_Test____and__ {P : Program} {w : World} {K : PySem.W.Frag} {mg : Str → Option Value} {base : Heap} (B : BN K mg) (C_combine : FnAt P w K mg base (DW K mg) 44 "combine" ["kind", "one", "other"] m_combine) (d : DefMt K (DW K mg) 3 "__and__" "Test.__and__" s_Test____and__ ["self", "other"]) : MtAt P w K mg base (DW K mg) 45 "__and__" 3 m_Test____and__ :=
  mt_at d sc_Test____and__ rfl (by decide) fun cdv A outer s H E hr tk =>
  (ss_one (s_ret (re_callA C_combine (hr.mono (by omega)) tk (ra_v re_str (ra_v (re_var 0 (pv 0)) (ra_v (re_var 1 (pv 1)) ra_nil))))))
abbrev s_Test____or__ : Stmt := inCls (top 19) 10
abbrev n_Test____or__ : List Str := ["self", "other"]
theorem sc_Test____or__ : FnScope n_Test____or__ ["self", "other"] (defScope s_Test____or__) := ⟨rfl, rfl, rfl, by decide +kernel, rfl, by decide +kernel, by decide +kernel⟩
def q_Test____or___1  : SM := (retM (callE m_combine (argV (cst (.str "or")) (argV (getv 0) (argV (getv 1) argNil)))))
@[simp] theorem e_Test____or___1  (ρ : Ev) : q_Test____or___1  ρ = (retM (callE m_combine (argV (cst (.str "or")) (argV (getv 0) (argV (getv 1) argNil))))) ρ := (rfl)
def m_Test____or__ : FM := fnB 2 2
  q_Test____or___1
theorem em_Test____or__ (as : List Slot) : m_Test____or__ as = if as.length = 2 then fin 2 as (q_Test____or___1 (enter 2 as)) else .stuck := ev_fn _ _ _ as
theorem ok_Test____or__ {P : Program} {w : World} {K : PySem.W.Frag} {mg : Str → Option Value} {base : Heap} (B : BN K mg) (C_combine : FnAt P w K mg base (DW K mg) 44 "combine" ["kind", "one", "other"] m_combine) (d : DefMt K (DW K mg) 3 "__or__" "Test.__or__" s_Test____or__ ["self", "other"]) : MtAt P w K mg base (DW K mg) 45 "__or__" 3 m_Test____or__ :=
  mt_at d sc_Test____or__ rfl (by decide) fun cdv A outer s H E hr tk =>
  (ss_one (s_ret (re_callA C_combine (hr.mono (by omega)) tk (ra_v re_str (ra_v (re_var 0 (pv 0)) (ra_v (re_var 1 (pv 1)) ra_nil))))))
abbrev s_Test____invert__ : Stmt := inCls (top 19) 11
abbrev n_Test____invert__ : List Str := ["self"]
theorem sc_Test____invert__ : FnScope n_Test____invert__ ["self"] (defScope s_Test____invert__) := ⟨rfl, rfl, rfl, by decide +kernel, rfl, by decide +kernel, by decide +kernel⟩
def q_Test____invert___1  : SM := (retM (callE m_limited (argV (frz (mkM 3 m_Test____init__ (argV (cst (.str "not")) (argV (tupM argNil) (argV (tupM (argV (getv 0) argNil)) argNil))))) argNil)))
@[simp] theorem e_Test____invert___1  (ρ : Ev) : q_Test____invert___1  ρ = (retM (callE m_limited (argV (frz (mkM 3 m_Test____init__ (argV (cst (.str "not")) (argV (tupM argNil) (argV (tupM (argV (getv 0) argNil)) argNil))))) argNil))) ρ := (rfl)
def m_Test____invert__ : FM := fnB 1 1
  q_Test____invert___1
theorem em_Test____invert__ (as : List Slot) : m_Test____invert__ as = if as.length = 1 then fin 1 as (q_Test____invert___1 (enter 1 as)) else .stuck := ev_fn _ _ _ as
theorem ok_Test____invert__ {P : Program} {w : World} {K : PySem.W.Frag} {mg : Str → Option Value} {base : Heap} (B : BN K mg) (C_limited : FnAt P w K mg base (DW K mg) 42 "limited" ["test"] m_limited) (C_Test____init__ : MkAt P w K mg base (DW K mg) 1 3 "Test" m_Test____init__) (d : DefMt K (DW K mg) 3 "__invert__" "Test.__invert__" s_Test____invert__ ["self"]) : MtAt P w K mg base (DW K mg) 44 "__invert__" 3 m_Test____invert__ :=
  mt_at d sc_Test____invert__ rfl (by decide) fun cdv A outer s H E hr tk =>
  (ss_one (s_ret (re_callA C_limited (hr.mono (by omega)) tk (ra_v (re_frz (rn_mk C_Test____init__ (hr.mono (by omega)) tk (ra_v re_str (ra_v (re_tup ra_nil) (ra_v (re_tup (ra_v (re_var 0 (pv 0)) ra_nil)) ra_nil))))) ra_nil))))
abbrev s_sure : Stmt := top 22
abbrev n_sure : List Str := ["test"]
theorem sc_sure : FnScope n_sure ["test"] (defScope s_sure) := ⟨rfl, rfl, rfl, by decide +kernel, rfl, by decide +kernel, by decide +kernel⟩
def q_sure_2  : SM := (raiseM 24 ["why"] (argV (cst (.str "part")) argNil))
@[simp] theorem e_sure_2  (ρ : Ev) : q_sure_2  ρ = (raiseM 24 ["why"] (argV (cst (.str "part")) argNil)) ρ := (rfl)
def q_sure_1  : SM := (ifM (notM (truM (isCM (peek 0) [3])))
  q_sure_2
  skipM)
@[simp] theorem e_sure_1  (ρ : Ev) : q_sure_1  ρ = (ifM (notM (truM (isCM (peek 0) [3])))
  q_sure_2
  skipM) ρ := (rfl)
def q_sure_3  : SM := (retM (callE m_limited (argV (frz (mkM 3 m_Test____init__ (argV (cst (.str "sure")) (argV (tupM argNil) (argV (tupM (argV (getv 0) argNil)) argNil))))) argNil)))
@[simp] theorem e_sure_3  (ρ : Ev) : q_sure_3  ρ = (retM (callE m_limited (argV (frz (mkM 3 m_Test____init__ (argV (cst (.str "sure")) (argV (tupM argNil) (argV (tupM (argV (getv 0) argNil)) argNil))))) argNil))) ρ := (rfl)
def m_sure : FM := fnB 1 1
  (seqM q_sure_1
  q_sure_3)
theorem em_sure (as : List Slot) : m_sure as = if as.length = 1 then fin 1 as ((seqM q_sure_1
  q_sure_3) (enter 1 as)) else .stuck := ev_fn _ _ _ as
theorem ok_sure {P : Program} {w : World} {K : PySem.W.Frag} {mg : Str → Option Value} {base : Heap} (B : BN K mg) (C_BadTest____init__ : XcAt P w K mg base (DW K mg) 1 24 "BadTest" ["why"]) (C_limited : FnAt P w K mg base (DW K mg) 42 "limited" ["test"] m_limited) (C_Test____init__ : MkAt P w K mg base (DW K mg) 1 3 "Test" m_Test____init__) (d : DefAt K mg "sure" s_sure ["test"]) : FnAt P w K mg base (DW K mg) 44 "sure" ["test"] m_sure :=
  fn_at d sc_sure rfl (by decide) fun cdv A outer s H E hr tk =>
  (ss_cons (s_if (rb_not (rb_truth (rp_of (re_isc B.hT B.i_Test rfl (rp_var 0 (pv 0)) rfl B.b_isinstance)) rfl))
  (ss_one (s_raise C_BadTest____init__ (by simp) (hr.mono (by omega)) tk (ra_v re_str ra_nil)))
  ss_nil)
  (ss_one (s_ret (re_callA C_limited (hr.mono (by omega)) tk (ra_v (re_frz (rn_mk C_Test____init__ (hr.mono (by omega)) tk (ra_v re_str (ra_v (re_tup ra_nil) (ra_v (re_tup (ra_v (re_var 0 (pv 0)) ra_nil)) ra_nil))))) ra_nil)))))
abbrev s_always : Stmt := top 29
abbrev n_always : List Str := []
theorem sc_always : FnScope n_always [] (defScope s_always) := ⟨rfl, rfl, rfl, by decide +kernel, rfl, by decide +kernel, by decide +kernel⟩
def q_always_1  : SM := (retM (frz (mkM 3 m_Test____init__ (argV (cst (.str "always")) (argV (tupM argNil) (argV (tupM argNil) argNil))))))
@[simp] theorem e_always_1  (ρ : Ev) : q_always_1  ρ = (retM (frz (mkM 3 m_Test____init__ (argV (cst (.str "always")) (argV (tupM argNil) (argV (tupM argNil) argNil)))))) ρ := (rfl)
def m_always : FM := fnB 0 0
  q_always_1
theorem em_always (as : List Slot) : m_always as = if as.length = 0 then fin 0 as (q_always_1 (enter 0 as)) else .stuck := ev_fn _ _ _ as
theorem ok_always {P : Program} {w : World} {K : PySem.W.Frag} {mg : Str → Option Value} {base : Heap} (B : BN K mg) (C_Test____init__ : MkAt P w K mg base (DW K mg) 1 3 "Test" m_Test____init__) (d : DefAt K mg "always" s_always []) : FnAt P w K mg base (DW K mg) 3 "always" [] m_always :=
  fn_at d sc_always rfl (by decide) fun cdv A outer s H E hr tk =>
  (ss_one (s_ret (re_frz (rn_mk C_Test____init__ (hr.mono (by omega)) tk (ra_v re_str (ra_v (re_tup ra_nil) (ra_v (re_tup ra_nil) ra_nil)))))))
abbrev s_never : Stmt := top 30
abbrev n_never : List Str := []
theorem sc_never : FnScope n_never [] (defScope s_never) := ⟨rfl, rfl, rfl, by decide +kernel, rfl, by decide +kernel, by decide +kernel⟩
def q_never_1  : SM := (retM (frz (mkM 3 m_Test____init__ (argV (cst (.str "never")) (argV (tupM argNil) (argV (tupM argNil) argNil))))))
@[simp] theorem e_never_1  (ρ : Ev) : q_never_1  ρ = (retM (frz (mkM 3 m_Test____init__ (argV (cst (.str "never")) (argV (tupM argNil) (argV (tupM argNil) argNil)))))) ρ := (rfl)
def m_never : FM := fnB 0 0
  q_never_1
theorem em_never (as : List Slot) : m_never as = if as.length = 0 then fin 0 as (q_never_1 (enter 0 as)) else .stuck := ev_fn _ _ _ as
theorem ok_never {P : Program} {w : World} {K : PySem.W.Frag} {mg : Str → Option Value} {base : Heap} (B : BN K mg) (C_Test____init__ : MkAt P w K mg base (DW K mg) 1 3 "Test" m_Test____init__) (d : DefAt K mg "never" s_never []) : FnAt P w K mg base (DW K mg) 3 "never" [] m_never :=
  fn_at d sc_never rfl (by decide) fun cdv A outer s H E hr tk =>
  (ss_one (s_ret (re_frz (rn_mk C_Test____init__ (hr.mono (by omega)) tk (ra_v re_str (ra_v (re_tup ra_nil) (ra_v (re_tup ra_nil) ra_nil)))))))
abbrev s_is_name : Stmt := top 12
abbrev n_is_name : List Str := ["thing", "char"]
theorem sc_is_name : FnScope n_is_name ["thing"] (defScope s_is_name) := ⟨rfl, rfl, rfl, by decide +kernel, rfl, by decide +kernel, by decide +kernel⟩
def q_is_name_2  : SM := (retM (cst (.bl false)))
@[simp] theorem e_is_name_2  (ρ : Ev) : q_is_name_2  ρ = (retM (cst (.bl false))) ρ := (rfl)
def q_is_name_1  : SM := (ifM (orM (notM (truM (isM (peek 0) .str))) (notM (asB (chn pyLe pyLe (cst (.int 1)) (callB bLen (argN 0 argNil)) (cst (.int 8))))))
  q_is_name_2
  skipM)
@[simp] theorem e_is_name_1  (ρ : Ev) : q_is_name_1  ρ = (ifM (orM (notM (truM (isM (peek 0) .str))) (notM (asB (chn pyLe pyLe (cst (.int 1)) (callB bLen (argN 0 argNil)) (cst (.int 8))))))
  q_is_name_2
  skipM) ρ := (rfl)
def q_is_name_4  : SM := (retM (cst (.bl false)))
@[simp] theorem e_is_name_4  (ρ : Ev) : q_is_name_4  ρ = (retM (cst (.bl false))) ρ := (rfl)
def q_is_name_3  : SM := (ifM (orM (asB (bin pyNotIn (binN pyIx 0 (cst (.int 0))) (cst (.str c_LETTERS)))) (asB (binN pyIn 0 (cst (.tup c_KEPT_WORDS)))))
  q_is_name_4
  skipM)
@[simp] theorem e_is_name_3  (ρ : Ev) : q_is_name_3  ρ = (ifM (orM (asB (bin pyNotIn (binN pyIx 0 (cst (.int 0))) (cst (.str c_LETTERS)))) (asB (binN pyIn 0 (cst (.tup c_KEPT_WORDS)))))
  q_is_name_4
  skipM) ρ := (rfl)
def q_is_name_7  : SM := (retM (cst (.bl false)))
@[simp] theorem e_is_name_7  (ρ : Ev) : q_is_name_7  ρ = (retM (cst (.bl false))) ρ := (rfl)
def q_is_name_6  : SM := (ifM (andM (asB (binN pyNotIn 1 (cst (.str c_LETTERS)))) (asB (binN pyNotIn 1 (cst (.str c_DIGITS)))))
  q_is_name_7
  skipM)
@[simp] theorem e_is_name_6  (ρ : Ev) : q_is_name_6  ρ = (ifM (andM (asB (binN pyNotIn 1 (cst (.str c_LETTERS)))) (asB (binN pyNotIn 1 (cst (.str c_DIGITS)))))
  q_is_name_7
  skipM) ρ := (rfl)
def q_is_name_5  : SM := (frM (itV (getv 0)) (tgN 1)
  q_is_name_6)
@[simp] theorem e_is_name_5  (ρ : Ev) : q_is_name_5  ρ = (frM (itV (getv 0)) (tgN 1)
  q_is_name_6) ρ := (rfl)
def q_is_name_8  : SM := (retM (cst (.bl true)))
@[simp] theorem e_is_name_8  (ρ : Ev) : q_is_name_8  ρ = (retM (cst (.bl true))) ρ := (rfl)
def m_is_name : FM := fnB 1 2
  (seqM q_is_name_1
  (seqM q_is_name_3
  (seqM q_is_name_5
  q_is_name_8)))
theorem em_is_name (as : List Slot) : m_is_name as = if as.length = 1 then fin 1 as ((seqM q_is_name_1
  (seqM q_is_name_3
  (seqM q_is_name_5
  q_is_name_8))) (enter 2 as)) else .stuck := ev_fn _ _ _ as
theorem ok_is_name {P : Program} {w : World} {K : PySem.W.Frag} {mg : Str → Option Value} {base : Heap} (B : BN K mg) (d : DefAt K mg "is_name" s_is_name ["thing"]) : FnAt P w K mg base (DW K mg) 1 "is_name" ["thing"] m_is_name :=
  fn_at d sc_is_name rfl (by decide) fun cdv A outer s H E hr tk =>
  (ss_cons (s_if (rb_w (rw_or (rb_not (rb_truth (rp_of (re_isi B.hT .str rfl (rp_var 0 (pv 0)) rfl B.b_isinstance rfl B.b_str PyProof.Rows.boot_str)) rfl)) (rw_or1 (rb_not (rb_chain op_leP op_leP sn_le sn_le re_int (re_len rfl (hg := rfl) (hm := B.b_len) (ha := (ra_n 0 (pv 0) ra_nil))) (rp_of re_int))))))
  (ss_one (s_ret re_bl))
  ss_nil)
  (ss_cons (s_if (rb_w (rw_or (rb_cmp rfl (op_notInP (hu65 hr)) sn_notIn (re_ixN (hu1 hr) rfl (pv 0) (rp_of re_int)) (rp_of (re_glob B.g_LETTERS))) (rw_or1 (rb_cmpN rfl (op_inP (hu65 hr)) sn_in (pv 0) (rp_of (re_glob B.g_KEPT_WORDS))))))
  (ss_one (s_ret re_bl))
  ss_nil)
  (ss_cons (s_fr (passes_of rfl) rfl (ri_v rfl (re_var 0 (pv 0))) (pg_name (i := 1) sc_is_name.nd rfl (by first | exact Or.inl rfl | exact Or.inr rfl)) (vs := [1]) (tgx_name (by decide))
  (ss_one (s_if (rb_w (rw_and (rb_cmpN rfl (op_notInP (hu65 hr)) sn_notIn (pv 1) (rp_of (re_glob B.g_LETTERS))) (rw_and1 (rb_cmpN rfl (op_notInP (hu65 hr)) sn_notIn (pv 1) (rp_of (re_glob B.g_DIGITS))))))
  (ss_one (s_ret re_bl))
  ss_nil)))
  (ss_one (s_ret re_bl)))))
abbrev s_empty : Stmt := top 28
abbrev n_empty : List Str := ["column"]
theorem sc_empty : FnScope n_empty ["column"] (defScope s_empty) := ⟨rfl, rfl, rfl, by decide +kernel, rfl, by decide +kernel, by decide +kernel⟩
def q_empty_2  : SM := (raiseM 24 ["why"] (argV (cst (.str "column")) argNil))
@[simp] theorem e_empty_2  (ρ : Ev) : q_empty_2  ρ = (raiseM 24 ["why"] (argV (cst (.str "column")) argNil)) ρ := (rfl)
def q_empty_1  : SM := (ifM (notM (truM (callE m_is_name (argV (getv 0) argNil))))
  q_empty_2
  skipM)
@[simp] theorem e_empty_1  (ρ : Ev) : q_empty_1  ρ = (ifM (notM (truM (callE m_is_name (argV (getv 0) argNil))))
  q_empty_2
  skipM) ρ := (rfl)
def q_empty_3  : SM := (retM (frz (mkM 3 m_Test____init__ (argV (cst (.str "empty")) (argV (tupM (argV (getv 0) argNil)) (argV (tupM argNil) argNil))))))
@[simp] theorem e_empty_3  (ρ : Ev) : q_empty_3  ρ = (retM (frz (mkM 3 m_Test____init__ (argV (cst (.str "empty")) (argV (tupM (argV (getv 0) argNil)) (argV (tupM argNil) argNil)))))) ρ := (rfl)
def m_empty : FM := fnB 1 1
  (seqM q_empty_1
  q_empty_3)
theorem em_empty (as : List Slot) : m_empty as = if as.length = 1 then fin 1 as ((seqM q_empty_1
  q_empty_3) (enter 1 as)) else .stuck := ev_fn _ _ _ as
theorem ok_empty {P : Program} {w : World} {K : PySem.W.Frag} {mg : Str → Option Value} {base : Heap} (B : BN K mg) (C_is_name : FnAt P w K mg base (DW K mg) 1 "is_name" ["thing"] m_is_name) (C_BadTest____init__ : XcAt P w K mg base (DW K mg) 1 24 "BadTest" ["why"]) (C_Test____init__ : MkAt P w K mg base (DW K mg) 1 3 "Test" m_Test____init__) (d : DefAt K mg "empty" s_empty ["column"]) : FnAt P w K mg base (DW K mg) 3 "empty" ["column"] m_empty :=
  fn_at d sc_empty rfl (by decide) fun cdv A outer s H E hr tk =>
  (ss_cons (s_if (rb_not (rb_truth (rp_of (re_callA C_is_name (hr.mono (by omega)) tk (ra_v (re_var 0 (pv 0)) ra_nil))) rfl))
  (ss_one (s_raise C_BadTest____init__ (by simp) (hr.mono (by omega)) tk (ra_v re_str ra_nil)))
  ss_nil)
  (ss_one (s_ret (re_frz (rn_mk C_Test____init__ (hr.mono (by omega)) tk (ra_v re_str (ra_v (re_tup (ra_v (re_var 0 (pv 0)) ra_nil)) (ra_v (re_tup ra_nil) ra_nil))))))))
abbrev s_is_sequence : Stmt := top 10
abbrev n_is_sequence : List Str := ["thing"]
theorem sc_is_sequence : FnScope n_is_sequence ["thing"] (defScope s_is_sequence) := ⟨rfl, rfl, rfl, by decide +kernel, rfl, by decide +kernel, by decide +kernel⟩
def q_is_sequence_1  : SM := (retM (isTM (peek 0) [.list, .tuple]))
@[simp] theorem e_is_sequence_1  (ρ : Ev) : q_is_sequence_1  ρ = (retM (isTM (peek 0) [.list, .tuple])) ρ := (rfl)
def m_is_sequence : FM := fnB 1 1
  q_is_sequence_1
theorem em_is_sequence (as : List Slot) : m_is_sequence as = if as.length = 1 then fin 1 as (q_is_sequence_1 (enter 1 as)) else .stuck := ev_fn _ _ _ as
theorem ok_is_sequence {P : Program} {w : World} {K : PySem.W.Frag} {mg : Str → Option Value} {base : Heap} (B : BN K mg) (d : DefAt K mg "is_sequence" s_is_sequence ["thing"]) : FnAt P w K mg base (DW K mg) 1 "is_sequence" ["thing"] m_is_sequence :=
  fn_at d sc_is_sequence rfl (by decide) fun cdv A outer s H E hr tk =>
  (ss_one (s_ret (re_isT2 B.hT .list .tuple rfl (rp_var 0 (pv 0)) rfl B.b_isinstance rfl B.b_list rfl B.b_tuple PyProof.Rows.boot_list PyProof.Rows.boot_tuple)))
abbrev s_is_integer : Stmt := top 9
abbrev n_is_integer : List Str := ["thing"]
theorem sc_is_integer : FnScope n_is_integer ["thing"] (defScope s_is_integer) := ⟨rfl, rfl, rfl, by decide +kernel, rfl, by decide +kernel, by decide +kernel⟩
def q_is_integer_1  : SM := (retM (andV' (isM (peek 0) .int) (un pyNot (isM (peek 0) .bool))))
@[simp] theorem e_is_integer_1  (ρ : Ev) : q_is_integer_1  ρ = (retM (andV' (isM (peek 0) .int) (un pyNot (isM (peek 0) .bool)))) ρ := (rfl)
def m_is_integer : FM := fnB 1 1
  q_is_integer_1
theorem em_is_integer (as : List Slot) : m_is_integer as = if as.length = 1 then fin 1 as (q_is_integer_1 (enter 1 as)) else .stuck := ev_fn _ _ _ as
theorem ok_is_integer {P : Program} {w : World} {K : PySem.W.Frag} {mg : Str → Option Value} {base : Heap} (B : BN K mg) (d : DefAt K mg "is_integer" s_is_integer ["thing"]) : FnAt P w K mg base (DW K mg) 1 "is_integer" ["thing"] m_is_integer :=
  fn_at d sc_is_integer rfl (by decide) fun cdv A outer s H E hr tk =>
  (ss_one (s_ret (re_and (re_isi B.hT .int rfl (rp_var 0 (pv 0)) rfl B.b_isinstance rfl B.b_int PyProof.Rows.boot_int) (re_one (re_notV (re_isi B.hT .bool rfl (rp_var 0 (pv 0)) rfl B.b_isinstance rfl B.b_bool PyProof.Rows.boot_bool) rfl)) rfl)))
abbrev s_is_text : Stmt := top 11
abbrev n_is_text : List Str := ["thing", "char"]
theorem sc_is_text : FnScope n_is_text ["thing"] (defScope s_is_text) := ⟨rfl, rfl, rfl, by decide +kernel, rfl, by decide +kernel, by decide +kernel⟩
def q_is_text_2  : SM := (retM (cst (.bl false)))
@[simp] theorem e_is_text_2  (ρ : Ev) : q_is_text_2  ρ = (retM (cst (.bl false))) ρ := (rfl)
def q_is_text_1  : SM := (ifM (notM (truM (isM (peek 0) .str)))
  q_is_text_2
  skipM)
@[simp] theorem e_is_text_1  (ρ : Ev) : q_is_text_1  ρ = (ifM (notM (truM (isM (peek 0) .str)))
  q_is_text_2
  skipM) ρ := (rfl)
def q_is_text_5  : SM := (retM (cst (.bl false)))
@[simp] theorem e_is_text_5  (ρ : Ev) : q_is_text_5  ρ = (retM (cst (.bl false))) ρ := (rfl)
def q_is_text_4  : SM := (ifM (asB (binN pyNotIn 1 (cst (.str c_CHARS))))
  q_is_text_5
  skipM)
@[simp] theorem e_is_text_4  (ρ : Ev) : q_is_text_4  ρ = (ifM (asB (binN pyNotIn 1 (cst (.str c_CHARS))))
  q_is_text_5
  skipM) ρ := (rfl)
def q_is_text_3  : SM := (frM (itV (getv 0)) (tgN 1)
  q_is_text_4)
@[simp] theorem e_is_text_3  (ρ : Ev) : q_is_text_3  ρ = (frM (itV (getv 0)) (tgN 1)
  q_is_text_4) ρ := (rfl)
def q_is_text_6  : SM := (retM (cst (.bl true)))
@[simp] theorem e_is_text_6  (ρ : Ev) : q_is_text_6  ρ = (retM (cst (.bl true))) ρ := (rfl)
def m_is_text : FM := fnB 1 2
  (seqM q_is_text_1
  (seqM q_is_text_3
  q_is_text_6))
theorem em_is_text (as : List Slot) : m_is_text as = if as.length = 1 then fin 1 as ((seqM q_is_text_1
  (seqM q_is_text_3
  q_is_text_6)) (enter 2 as)) else .stuck := ev_fn _ _ _ as
theorem ok_is_text {P : Program} {w : World} {K : PySem.W.Frag} {mg : Str → Option Value} {base : Heap} (B : BN K mg) (d : DefAt K mg "is_text" s_is_text ["thing"]) : FnAt P w K mg base (DW K mg) 1 "is_text" ["thing"] m_is_text :=
  fn_at d sc_is_text rfl (by decide) fun cdv A outer s H E hr tk =>
  (ss_cons (s_if (rb_not (rb_truth (rp_of (re_isi B.hT .str rfl (rp_var 0 (pv 0)) rfl B.b_isinstance rfl B.b_str PyProof.Rows.boot_str)) rfl))
  (ss_one (s_ret re_bl))
  ss_nil)
  (ss_cons (s_fr (passes_of rfl) rfl (ri_v rfl (re_var 0 (pv 0))) (pg_name (i := 1) sc_is_text.nd rfl (by first | exact Or.inl rfl | exact Or.inr rfl)) (vs := [1]) (tgx_name (by decide))
  (ss_one (s_if (rb_cmpN rfl (op_notInP (hu65 hr)) sn_notIn (pv 1) (rp_of (re_glob B.g_CHARS)))
  (ss_one (s_ret re_bl))
  ss_nil)))
  (ss_one (s_ret re_bl))))
abbrev s_kind_of : Stmt := top 13
abbrev n_kind_of : List Str := ["value"]
theorem sc_kind_of : FnScope n_kind_of ["value"] (defScope s_kind_of) := ⟨rfl, rfl, rfl, by decide +kernel, rfl, by decide +kernel, by decide +kernel⟩
def q_kind_of_2  : SM := (retM (cst (.str "number")))
@[simp] theorem e_kind_of_2  (ρ : Ev) : q_kind_of_2  ρ = (retM (cst (.str "number"))) ρ := (rfl)
def q_kind_of_1  : SM := (ifM (truM (callE m_is_integer (argV (getv 0) argNil)))
  q_kind_of_2
  skipM)
@[simp] theorem e_kind_of_1  (ρ : Ev) : q_kind_of_1  ρ = (ifM (truM (callE m_is_integer (argV (getv 0) argNil)))
  q_kind_of_2
  skipM) ρ := (rfl)
def q_kind_of_4  : SM := (retM (cst (.str "text")))
@[simp] theorem e_kind_of_4  (ρ : Ev) : q_kind_of_4  ρ = (retM (cst (.str "text"))) ρ := (rfl)
def q_kind_of_3  : SM := (ifM (truM (callE m_is_text (argV (getv 0) argNil)))
  q_kind_of_4
  skipM)
@[simp] theorem e_kind_of_3  (ρ : Ev) : q_kind_of_3  ρ = (ifM (truM (callE m_is_text (argV (getv 0) argNil)))
  q_kind_of_4
  skipM) ρ := (rfl)
def q_kind_of_5  : SM := (retM (cst .non))
@[simp] theorem e_kind_of_5  (ρ : Ev) : q_kind_of_5  ρ = (retM (cst .non)) ρ := (rfl)
def m_kind_of : FM := fnB 1 1
  (seqM q_kind_of_1
  (seqM q_kind_of_3
  q_kind_of_5))
theorem em_kind_of (as : List Slot) : m_kind_of as = if as.length = 1 then fin 1 as ((seqM q_kind_of_1
  (seqM q_kind_of_3
  q_kind_of_5)) (enter 1 as)) else .stuck := ev_fn _ _ _ as
theorem ok_kind_of {P : Program} {w : World} {K : PySem.W.Frag} {mg : Str → Option Value} {base : Heap} (B : BN K mg) (C_is_integer : FnAt P w K mg base (DW K mg) 1 "is_integer" ["thing"] m_is_integer) (C_is_text : FnAt P w K mg base (DW K mg) 1 "is_text" ["thing"] m_is_text) (d : DefAt K mg "kind_of" s_kind_of ["value"]) : FnAt P w K mg base (DW K mg) 2 "kind_of" ["value"] m_kind_of :=
  fn_at d sc_kind_of rfl (by decide) fun cdv A outer s H E hr tk =>
  (ss_cons (s_if (rb_truth (rp_of (re_callA C_is_integer (hr.mono (by omega)) tk (ra_v (re_var 0 (pv 0)) ra_nil))) rfl)
  (ss_one (s_ret re_str))
  ss_nil)
  (ss_cons (s_if (rb_truth (rp_of (re_callA C_is_text (hr.mono (by omega)) tk (ra_v (re_var 0 (pv 0)) ra_nil))) rfl)
  (ss_one (s_ret re_str))
  ss_nil)
  (ss_one (s_ret re_non))))
abbrev s_among : Stmt := top 26
abbrev n_among : List Str := ["column", "values", "value"]
theorem sc_among : FnScope n_among ["column", "values"] (defScope s_among) := ⟨rfl, rfl, rfl, by decide +kernel, rfl, by decide +kernel, by decide +kernel⟩
def q_among_2  : SM := (raiseM 24 ["why"] (argV (cst (.str "column")) argNil))
@[simp] theorem e_among_2  (ρ : Ev) : q_among_2  ρ = (raiseM 24 ["why"] (argV (cst (.str "column")) argNil)) ρ := (rfl)
def q_among_1  : SM := (ifM (notM (truM (callE m_is_name (argV (getv 0) argNil))))
  q_among_2
  skipM)
@[simp] theorem e_among_1  (ρ : Ev) : q_among_1  ρ = (ifM (notM (truM (callE m_is_name (argV (getv 0) argNil))))
  q_among_2
  skipM) ρ := (rfl)
def q_among_4  : SM := (raiseM 24 ["why"] (argV (cst (.str "value")) argNil))
@[simp] theorem e_among_4  (ρ : Ev) : q_among_4  ρ = (raiseM 24 ["why"] (argV (cst (.str "value")) argNil)) ρ := (rfl)
def q_among_3  : SM := (ifM (orM (notM (truM (callE m_is_sequence (argV (getv 1) argNil)))) (notM (asB (chn pyLe pyLe (cst (.int 1)) (callB bLen (argN 1 argNil)) (cst (.int 8))))))
  q_among_4
  skipM)
@[simp] theorem e_among_3  (ρ : Ev) : q_among_3  ρ = (ifM (orM (notM (truM (callE m_is_sequence (argV (getv 1) argNil)))) (notM (asB (chn pyLe pyLe (cst (.int 1)) (callB bLen (argN 1 argNil)) (cst (.int 8))))))
  q_among_4
  skipM) ρ := (rfl)
def q_among_7  : SM := (raiseM 24 ["why"] (argV (cst (.str "value")) argNil))
@[simp] theorem e_among_7  (ρ : Ev) : q_among_7  ρ = (raiseM 24 ["why"] (argV (cst (.str "value")) argNil)) ρ := (rfl)
def q_among_6  : SM := (ifM (asB (bin pyIs (callE m_kind_of (argV (getv 2) argNil)) (cst .non)))
  q_among_7
  skipM)
@[simp] theorem e_among_6  (ρ : Ev) : q_among_6  ρ = (ifM (asB (bin pyIs (callE m_kind_of (argV (getv 2) argNil)) (cst .non)))
  q_among_7
  skipM) ρ := (rfl)
def q_among_5  : SM := (frM (itV (getv 1)) (tgN 2)
  q_among_6)
@[simp] theorem e_among_5  (ρ : Ev) : q_among_5  ρ = (frM (itV (getv 1)) (tgN 2)
  q_among_6) ρ := (rfl)
def q_among_8  : SM := (retM (frz (mkM 3 m_Test____init__ (argV (cst (.str "among")) (argV (tupM (argV (getv 0) (argV (callB bTup (argN 1 argNil)) argNil))) (argV (tupM argNil) argNil))))))
@[simp] theorem e_among_8  (ρ : Ev) : q_among_8  ρ = (retM (frz (mkM 3 m_Test____init__ (argV (cst (.str "among")) (argV (tupM (argV (getv 0) (argV (callB bTup (argN 1 argNil)) argNil))) (argV (tupM argNil) argNil)))))) ρ := (rfl)
def m_among : FM := fnB 2 3
  (seqM q_among_1
  (seqM q_among_3
  (seqM q_among_5
  q_among_8)))
theorem em_among (as : List Slot) : m_among as = if as.length = 2 then fin 2 as ((seqM q_among_1
  (seqM q_among_3
  (seqM q_among_5
  q_among_8))) (enter 3 as)) else .stuck := ev_fn _ _ _ as
theorem ok_among {P : Program} {w : World} {K : PySem.W.Frag} {mg : Str → Option Value} {base : Heap} (B : BN K mg) (C_is_name : FnAt P w K mg base (DW K mg) 1 "is_name" ["thing"] m_is_name) (C_BadTest____init__ : XcAt P w K mg base (DW K mg) 1 24 "BadTest" ["why"]) (C_is_sequence : FnAt P w K mg base (DW K mg) 1 "is_sequence" ["thing"] m_is_sequence) (C_kind_of : FnAt P w K mg base (DW K mg) 2 "kind_of" ["value"] m_kind_of) (C_Test____init__ : MkAt P w K mg base (DW K mg) 1 3 "Test" m_Test____init__) (d : DefAt K mg "among" s_among ["column", "values"]) : FnAt P w K mg base (DW K mg) 4 "among" ["column", "values"] m_among :=
  fn_at d sc_among rfl (by decide) fun cdv A outer s H E hr tk =>
  (ss_cons (s_if (rb_not (rb_truth (rp_of (re_callA C_is_name (hr.mono (by omega)) tk (ra_v (re_var 0 (pv 0)) ra_nil))) rfl))
  (ss_one (s_raise C_BadTest____init__ (by simp) (hr.mono (by omega)) tk (ra_v re_str ra_nil)))
  ss_nil)
  (ss_cons (s_if (rb_w (rw_or (rb_not (rb_truth (rp_of (re_callA C_is_sequence (hr.mono (by omega)) tk (ra_v (re_var 1 (pv 1)) ra_nil))) rfl)) (rw_or1 (rb_not (rb_chain op_leP op_leP sn_le sn_le re_int (re_len rfl (hg := rfl) (hm := B.b_len) (ha := (ra_n 1 (pv 1) ra_nil))) (rp_of re_int))))))
  (ss_one (s_raise C_BadTest____init__ (by simp) (hr.mono (by omega)) tk (ra_v re_str ra_nil)))
  ss_nil)
  (ss_cons (s_fr (passes_of rfl) rfl (ri_v rfl (re_var 1 (pv 1))) (pg_name (i := 2) sc_among.nd rfl (by first | exact Or.inl rfl | exact Or.inr rfl)) (vs := [2]) (tgx_name (by decide))
  (ss_one (s_if (rb_cmp (nomark _) op_isP sn_is (re_callA C_kind_of (hr.mono (by omega)) tk (ra_v (re_var 2 (pv 2)) ra_nil)) (rp_of re_non))
  (ss_one (s_raise C_BadTest____init__ (by simp) (hr.mono (by omega)) tk (ra_v re_str ra_nil)))
  ss_nil)))
  (ss_one (s_ret (re_frz (rn_mk C_Test____init__ (hr.mono (by omega)) tk (ra_v re_str (ra_v (re_tup (ra_v (re_var 0 (pv 0)) (ra_v (re_tup1 (hK := rfl) (hg := rfl) (hm := B.b_tuple) (ha := (ra_n 1 (pv 1) ra_nil))) ra_nil))) (ra_v (re_tup ra_nil) ra_nil))))))))))
abbrev s_begins : Stmt := top 27
abbrev n_begins : List Str := ["column", "prefix"]
theorem sc_begins : FnScope n_begins ["column", "prefix"] (defScope s_begins) := ⟨rfl, rfl, rfl, by decide +kernel, rfl, by decide +kernel, by decide +kernel⟩
def q_begins_2  : SM := (raiseM 24 ["why"] (argV (cst (.str "column")) argNil))
@[simp] theorem e_begins_2  (ρ : Ev) : q_begins_2  ρ = (raiseM 24 ["why"] (argV (cst (.str "column")) argNil)) ρ := (rfl)
def q_begins_1  : SM := (ifM (notM (truM (callE m_is_name (argV (getv 0) argNil))))
  q_begins_2
  skipM)
@[simp] theorem e_begins_1  (ρ : Ev) : q_begins_1  ρ = (ifM (notM (truM (callE m_is_name (argV (getv 0) argNil))))
  q_begins_2
  skipM) ρ := (rfl)
def q_begins_4  : SM := (raiseM 24 ["why"] (argV (cst (.str "value")) argNil))
@[simp] theorem e_begins_4  (ρ : Ev) : q_begins_4  ρ = (raiseM 24 ["why"] (argV (cst (.str "value")) argNil)) ρ := (rfl)
def q_begins_3  : SM := (ifM (notM (truM (callE m_is_text (argV (getv 1) argNil))))
  q_begins_4
  skipM)
@[simp] theorem e_begins_3  (ρ : Ev) : q_begins_3  ρ = (ifM (notM (truM (callE m_is_text (argV (getv 1) argNil))))
  q_begins_4
  skipM) ρ := (rfl)
def q_begins_5  : SM := (retM (frz (mkM 3 m_Test____init__ (argV (cst (.str "begins")) (argV (tupM (argV (getv 0) (argV (getv 1) argNil))) (argV (tupM argNil) argNil))))))
@[simp] theorem e_begins_5  (ρ : Ev) : q_begins_5  ρ = (retM (frz (mkM 3 m_Test____init__ (argV (cst (.str "begins")) (argV (tupM (argV (getv 0) (argV (getv 1) argNil))) (argV (tupM argNil) argNil)))))) ρ := (rfl)
def m_begins : FM := fnB 2 2
  (seqM q_begins_1
  (seqM q_begins_3
  q_begins_5))
theorem em_begins (as : List Slot) : m_begins as = if as.length = 2 then fin 2 as ((seqM q_begins_1
  (seqM q_begins_3
  q_begins_5)) (enter 2 as)) else .stuck := ev_fn _ _ _ as
theorem ok_begins {P : Program} {w : World} {K : PySem.W.Frag} {mg : Str → Option Value} {base : Heap} (B : BN K mg) (C_is_name : FnAt P w K mg base (DW K mg) 1 "is_name" ["thing"] m_is_name) (C_BadTest____init__ : XcAt P w K mg base (DW K mg) 1 24 "BadTest" ["why"]) (C_is_text : FnAt P w K mg base (DW K mg) 1 "is_text" ["thing"] m_is_text) (C_Test____init__ : MkAt P w K mg base (DW K mg) 1 3 "Test" m_Test____init__) (d : DefAt K mg "begins" s_begins ["column", "prefix"]) : FnAt P w K mg base (DW K mg) 3 "begins" ["column", "prefix"] m_begins :=
  fn_at d sc_begins rfl (by decide) fun cdv A outer s H E hr tk =>
  (ss_cons (s_if (rb_not (rb_truth (rp_of (re_callA C_is_name (hr.mono (by omega)) tk (ra_v (re_var 0 (pv 0)) ra_nil))) rfl))
  (ss_one (s_raise C_BadTest____init__ (by simp) (hr.mono (by omega)) tk (ra_v re_str ra_nil)))
  ss_nil)
  (ss_cons (s_if (rb_not (rb_truth (rp_of (re_callA C_is_text (hr.mono (by omega)) tk (ra_v (re_var 1 (pv 1)) ra_nil))) rfl))
  (ss_one (s_raise C_BadTest____init__ (by simp) (hr.mono (by omega)) tk (ra_v re_str ra_nil)))
  ss_nil)
  (ss_one (s_ret (re_frz (rn_mk C_Test____init__ (hr.mono (by omega)) tk (ra_v re_str (ra_v (re_tup (ra_v (re_var 0 (pv 0)) (ra_v (re_var 1 (pv 1)) ra_nil))) (ra_v (re_tup ra_nil) ra_nil)))))))))
abbrev s_is_operator : Stmt := top 23
abbrev n_is_operator : List Str := ["op"]
theorem sc_is_operator : FnScope n_is_operator ["op"] (defScope s_is_operator) := ⟨rfl, rfl, rfl, by decide +kernel, rfl, by decide +kernel, by decide +kernel⟩
def q_is_operator_1  : SM := (retM (andV' (isM (peek 0) .str) (binN pyIn 0 (cst (.tup c_OPERATORS)))))
@[simp] theorem e_is_operator_1  (ρ : Ev) : q_is_operator_1  ρ = (retM (andV' (isM (peek 0) .str) (binN pyIn 0 (cst (.tup c_OPERATORS))))) ρ := (rfl)
def m_is_operator : FM := fnB 1 1
  q_is_operator_1
theorem em_is_operator (as : List Slot) : m_is_operator as = if as.length = 1 then fin 1 as (q_is_operator_1 (enter 1 as)) else .stuck := ev_fn _ _ _ as
theorem ok_is_operator {P : Program} {w : World} {K : PySem.W.Frag} {mg : Str → Option Value} {base : Heap} (B : BN K mg) (d : DefAt K mg "is_operator" s_is_operator ["op"]) : FnAt P w K mg base (DW K mg) 1 "is_operator" ["op"] m_is_operator :=
  fn_at d sc_is_operator rfl (by decide) fun cdv A outer s H E hr tk =>
  (ss_one (s_ret (re_and (re_isi B.hT .str rfl (rp_var 0 (pv 0)) rfl B.b_isinstance rfl B.b_str PyProof.Rows.boot_str) (re_one (re_cmpN rfl (op_inP (hu65 hr)) sn_in (pv 0) (rp_of (re_glob B.g_OPERATORS)))) rfl)))
abbrev s_compare : Stmt := top 24
abbrev n_compare : List Str := ["column", "op", "value"]
theorem sc_compare : FnScope n_compare ["column", "op", "value"] (defScope s_compare) := ⟨rfl, rfl, rfl, by decide +kernel, rfl, by decide +kernel, by decide +kernel⟩
def q_compare_2  : SM := (raiseM 24 ["why"] (argV (cst (.str "column")) argNil))
@[simp] theorem e_compare_2  (ρ : Ev) : q_compare_2  ρ = (raiseM 24 ["why"] (argV (cst (.str "column")) argNil)) ρ := (rfl)
def q_compare_1  : SM := (ifM (notM (truM (callE m_is_name (argV (getv 0) argNil))))
  q_compare_2
  skipM)
@[simp] theorem e_compare_1  (ρ : Ev) : q_compare_1  ρ = (ifM (notM (truM (callE m_is_name (argV (getv 0) argNil))))
  q_compare_2
  skipM) ρ := (rfl)
def q_compare_4  : SM := (raiseM 24 ["why"] (argV (cst (.str "op")) argNil))
@[simp] theorem e_compare_4  (ρ : Ev) : q_compare_4  ρ = (raiseM 24 ["why"] (argV (cst (.str "op")) argNil)) ρ := (rfl)
def q_compare_3  : SM := (ifM (notM (truM (callE m_is_operator (argV (getv 1) argNil))))
  q_compare_4
  skipM)
@[simp] theorem e_compare_3  (ρ : Ev) : q_compare_3  ρ = (ifM (notM (truM (callE m_is_operator (argV (getv 1) argNil))))
  q_compare_4
  skipM) ρ := (rfl)
def q_compare_6  : SM := (raiseM 24 ["why"] (argV (cst (.str "value")) argNil))
@[simp] theorem e_compare_6  (ρ : Ev) : q_compare_6  ρ = (raiseM 24 ["why"] (argV (cst (.str "value")) argNil)) ρ := (rfl)
def q_compare_5  : SM := (ifM (asB (bin pyIs (callE m_kind_of (argV (getv 2) argNil)) (cst .non)))
  q_compare_6
  skipM)
@[simp] theorem e_compare_5  (ρ : Ev) : q_compare_5  ρ = (ifM (asB (bin pyIs (callE m_kind_of (argV (getv 2) argNil)) (cst .non)))
  q_compare_6
  skipM) ρ := (rfl)
def q_compare_7  : SM := (retM (frz (mkM 3 m_Test____init__ (argV (cst (.str "compare")) (argV (tupM (argV (getv 0) (argV (getv 1) (argV (getv 2) argNil)))) (argV (tupM argNil) argNil))))))
@[simp] theorem e_compare_7  (ρ : Ev) : q_compare_7  ρ = (retM (frz (mkM 3 m_Test____init__ (argV (cst (.str "compare")) (argV (tupM (argV (getv 0) (argV (getv 1) (argV (getv 2) argNil)))) (argV (tupM argNil) argNil)))))) ρ := (rfl)
def m_compare : FM := fnB 3 3
  (seqM q_compare_1
  (seqM q_compare_3
  (seqM q_compare_5
  q_compare_7)))
theorem em_compare (as : List Slot) : m_compare as = if as.length = 3 then fin 3 as ((seqM q_compare_1
  (seqM q_compare_3
  (seqM q_compare_5
  q_compare_7))) (enter 3 as)) else .stuck := ev_fn _ _ _ as
theorem ok_compare {P : Program} {w : World} {K : PySem.W.Frag} {mg : Str → Option Value} {base : Heap} (B : BN K mg) (C_is_name : FnAt P w K mg base (DW K mg) 1 "is_name" ["thing"] m_is_name) (C_BadTest____init__ : XcAt P w K mg base (DW K mg) 1 24 "BadTest" ["why"]) (C_is_operator : FnAt P w K mg base (DW K mg) 1 "is_operator" ["op"] m_is_operator) (C_kind_of : FnAt P w K mg base (DW K mg) 2 "kind_of" ["value"] m_kind_of) (C_Test____init__ : MkAt P w K mg base (DW K mg) 1 3 "Test" m_Test____init__) (d : DefAt K mg "compare" s_compare ["column", "op", "value"]) : FnAt P w K mg base (DW K mg) 4 "compare" ["column", "op", "value"] m_compare :=
  fn_at d sc_compare rfl (by decide) fun cdv A outer s H E hr tk =>
  (ss_cons (s_if (rb_not (rb_truth (rp_of (re_callA C_is_name (hr.mono (by omega)) tk (ra_v (re_var 0 (pv 0)) ra_nil))) rfl))
  (ss_one (s_raise C_BadTest____init__ (by simp) (hr.mono (by omega)) tk (ra_v re_str ra_nil)))
  ss_nil)
  (ss_cons (s_if (rb_not (rb_truth (rp_of (re_callA C_is_operator (hr.mono (by omega)) tk (ra_v (re_var 1 (pv 1)) ra_nil))) rfl))
  (ss_one (s_raise C_BadTest____init__ (by simp) (hr.mono (by omega)) tk (ra_v re_str ra_nil)))
  ss_nil)
  (ss_cons (s_if (rb_cmp (nomark _) op_isP sn_is (re_callA C_kind_of (hr.mono (by omega)) tk (ra_v (re_var 2 (pv 2)) ra_nil)) (rp_of re_non))
  (ss_one (s_raise C_BadTest____init__ (by simp) (hr.mono (by omega)) tk (ra_v re_str ra_nil)))
  ss_nil)
  (ss_one (s_ret (re_frz (rn_mk C_Test____init__ (hr.mono (by omega)) tk (ra_v re_str (ra_v (re_tup (ra_v (re_var 0 (pv 0)) (ra_v (re_var 1 (pv 1)) (ra_v (re_var 2 (pv 2)) ra_nil)))) (ra_v (re_tup ra_nil) ra_nil))))))))))
abbrev s_against : Stmt := top 25
abbrev n_against : List Str := ["column", "op", "other", "more"]
theorem sc_against : FnScope n_against ["column", "op", "other", "more"] (defScope s_against) := ⟨rfl, rfl, rfl, by decide +kernel, rfl, by decide +kernel, by decide +kernel⟩
def q_against_2  : SM := (raiseM 24 ["why"] (argV (cst (.str "column")) argNil))
@[simp] theorem e_against_2  (ρ : Ev) : q_against_2  ρ = (raiseM 24 ["why"] (argV (cst (.str "column")) argNil)) ρ := (rfl)
def q_against_1  : SM := (ifM (notM (truM (callE m_is_name (argV (getv 0) argNil))))
  q_against_2
  skipM)
@[simp] theorem e_against_1  (ρ : Ev) : q_against_1  ρ = (ifM (notM (truM (callE m_is_name (argV (getv 0) argNil))))
  q_against_2
  skipM) ρ := (rfl)
def q_against_4  : SM := (raiseM 24 ["why"] (argV (cst (.str "op")) argNil))
@[simp] theorem e_against_4  (ρ : Ev) : q_against_4  ρ = (raiseM 24 ["why"] (argV (cst (.str "op")) argNil)) ρ := (rfl)
def q_against_3  : SM := (ifM (notM (truM (callE m_is_operator (argV (getv 1) argNil))))
  q_against_4
  skipM)
@[simp] theorem e_against_3  (ρ : Ev) : q_against_3  ρ = (ifM (notM (truM (callE m_is_operator (argV (getv 1) argNil))))
  q_against_4
  skipM) ρ := (rfl)
def q_against_6  : SM := (raiseM 24 ["why"] (argV (cst (.str "column")) argNil))
@[simp] theorem e_against_6  (ρ : Ev) : q_against_6  ρ = (raiseM 24 ["why"] (argV (cst (.str "column")) argNil)) ρ := (rfl)
def q_against_5  : SM := (ifM (orM (notM (truM (callE m_is_name (argV (getv 2) argNil)))) (asB (binN pyEq 2 (peek 0))))
  q_against_6
  skipM)
@[simp] theorem e_against_5  (ρ : Ev) : q_against_5  ρ = (ifM (orM (notM (truM (callE m_is_name (argV (getv 2) argNil)))) (asB (binN pyEq 2 (peek 0))))
  q_against_6
  skipM) ρ := (rfl)
def q_against_8  : SM := (raiseM 24 ["why"] (argV (cst (.str "more")) argNil))
@[simp] theorem e_against_8  (ρ : Ev) : q_against_8  ρ = (raiseM 24 ["why"] (argV (cst (.str "more")) argNil)) ρ := (rfl)
def q_against_7  : SM := (ifM (notM (truM (callE m_is_integer (argV (getv 3) argNil))))
  q_against_8
  skipM)
@[simp] theorem e_against_7  (ρ : Ev) : q_against_7  ρ = (ifM (notM (truM (callE m_is_integer (argV (getv 3) argNil))))
  q_against_8
  skipM) ρ := (rfl)
def q_against_9  : SM := (retM (frz (mkM 3 m_Test____init__ (argV (cst (.str "against")) (argV (tupM (argV (getv 0) (argV (getv 1) (argV (getv 2) (argV (getv 3) argNil))))) (argV (tupM argNil) argNil))))))
@[simp] theorem e_against_9  (ρ : Ev) : q_against_9  ρ = (retM (frz (mkM 3 m_Test____init__ (argV (cst (.str "against")) (argV (tupM (argV (getv 0) (argV (getv 1) (argV (getv 2) (argV (getv 3) argNil))))) (argV (tupM argNil) argNil)))))) ρ := (rfl)
def m_against : FM := fnB 4 4
  (seqM q_against_1
  (seqM q_against_3
  (seqM q_against_5
  (seqM q_against_7
  q_against_9))))
theorem em_against (as : List Slot) : m_against as = if as.length = 4 then fin 4 as ((seqM q_against_1
  (seqM q_against_3
  (seqM q_against_5
  (seqM q_against_7
  q_against_9)))) (enter 4 as)) else .stuck := ev_fn _ _ _ as
theorem ok_against {P : Program} {w : World} {K : PySem.W.Frag} {mg : Str → Option Value} {base : Heap} (B : BN K mg) (C_is_name : FnAt P w K mg base (DW K mg) 1 "is_name" ["thing"] m_is_name) (C_BadTest____init__ : XcAt P w K mg base (DW K mg) 1 24 "BadTest" ["why"]) (C_is_operator : FnAt P w K mg base (DW K mg) 1 "is_operator" ["op"] m_is_operator) (C_is_integer : FnAt P w K mg base (DW K mg) 1 "is_integer" ["thing"] m_is_integer) (C_Test____init__ : MkAt P w K mg base (DW K mg) 1 3 "Test" m_Test____init__) (d : DefAtK K mg (DW K mg) "against" s_against ["column", "op", "other", "more"] [⟨3, [], [.at 0, .at 1, .at 2, .df 0 (.int 0)]⟩, ⟨3, ["more"], [.at 0, .at 1, .at 2, .at 3]⟩]) : FnAtK P w K mg base (DW K mg) 3 "against" ["column", "op", "other", "more"] [⟨3, [], [.at 0, .at 1, .at 2, .df 0 (.int 0)]⟩, ⟨3, ["more"], [.at 0, .at 1, .at 2, .at 3]⟩] m_against :=
  fnK_at d sc_against rfl (by decide) fun cdv A outer s H E hr tk =>
  (ss_cons (s_if (rb_not (rb_truth (rp_of (re_callA C_is_name (hr.mono (by omega)) tk (ra_v (re_var 0 (pv 0)) ra_nil))) rfl))
  (ss_one (s_raise C_BadTest____init__ (by simp) (hr.mono (by omega)) tk (ra_v re_str ra_nil)))
  ss_nil)
  (ss_cons (s_if (rb_not (rb_truth (rp_of (re_callA C_is_operator (hr.mono (by omega)) tk (ra_v (re_var 1 (pv 1)) ra_nil))) rfl))
  (ss_one (s_raise C_BadTest____init__ (by simp) (hr.mono (by omega)) tk (ra_v re_str ra_nil)))
  ss_nil)
  (ss_cons (s_if (rb_w (rw_or (rb_not (rb_truth (rp_of (re_callA C_is_name (hr.mono (by omega)) tk (ra_v (re_var 2 (pv 2)) ra_nil))) rfl)) (rw_or1 (rb_cmpN (nomark _) (op_eqP hr.units) sn_eq (pv 2) (rp_var 0 (pv 0))))))
  (ss_one (s_raise C_BadTest____init__ (by simp) (hr.mono (by omega)) tk (ra_v re_str ra_nil)))
  ss_nil)
  (ss_cons (s_if (rb_not (rb_truth (rp_of (re_callA C_is_integer (hr.mono (by omega)) tk (ra_v (re_var 3 (pv 3)) ra_nil))) rfl))
  (ss_one (s_raise C_BadTest____init__ (by simp) (hr.mono (by omega)) tk (ra_v re_str ra_nil)))
  ss_nil)
  (ss_one (s_ret (re_frz (rn_mk C_Test____init__ (hr.mono (by omega)) tk (ra_v re_str (ra_v (re_tup (ra_v (re_var 0 (pv 0)) (ra_v (re_var 1 (pv 1)) (ra_v (re_var 2 (pv 2)) (ra_v (re_var 3 (pv 3)) ra_nil))))) (ra_v (re_tup ra_nil) ra_nil)))))))))))
abbrev s__law_make : Stmt := top 50
abbrev n__law_make : List Str := ["_law_form_here", "_law_word"]
theorem sc__law_make : FnScope n__law_make ["_law_form_here"] (defScope s__law_make) := ⟨rfl, rfl, rfl, by decide +kernel, rfl, by decide +kernel, by decide +kernel⟩
def q__law_make_1 (r__law_make : FM) : SM := (setM 1 (binN pyIx 0 (cst (.int 0))))
@[simp] theorem e__law_make_1 (r__law_make : FM) (ρ : Ev) : q__law_make_1 r__law_make ρ = (setM 1 (binN pyIx 0 (cst (.int 0)))) ρ := (rfl)
def q__law_make_3 (r__law_make : FM) : SM := (retM (dunE 3 m_Test____and__ (callE r__law_make (argV (binN pyIx 0 (cst (.int 1))) argNil)) (callE r__law_make (argV (binN pyIx 0 (cst (.int 2))) argNil))))
@[simp] theorem e__law_make_3 (r__law_make : FM) (ρ : Ev) : q__law_make_3 r__law_make ρ = (retM (dunE 3 m_Test____and__ (callE r__law_make (argV (binN pyIx 0 (cst (.int 1))) argNil)) (callE r__law_make (argV (binN pyIx 0 (cst (.int 2))) argNil)))) ρ := (rfl)
def q__law_make_2 (r__law_make : FM) : SM := (ifM (asB (binN pyEq 1 (cst (.str "and"))))
  (q__law_make_3 r__law_make)
  skipM)
@[simp] theorem e__law_make_2 (r__law_make : FM) (ρ : Ev) : q__law_make_2 r__law_make ρ = (ifM (asB (binN pyEq 1 (cst (.str "and"))))
  (q__law_make_3 r__law_make)
  skipM) ρ := (rfl)
def q__law_make_5 (r__law_make : FM) : SM := (retM (dunE 3 m_Test____or__ (callE r__law_make (argV (binN pyIx 0 (cst (.int 1))) argNil)) (callE r__law_make (argV (binN pyIx 0 (cst (.int 2))) argNil))))
@[simp] theorem e__law_make_5 (r__law_make : FM) (ρ : Ev) : q__law_make_5 r__law_make ρ = (retM (dunE 3 m_Test____or__ (callE r__law_make (argV (binN pyIx 0 (cst (.int 1))) argNil)) (callE r__law_make (argV (binN pyIx 0 (cst (.int 2))) argNil)))) ρ := (rfl)
def q__law_make_4 (r__law_make : FM) : SM := (ifM (asB (binN pyEq 1 (cst (.str "or"))))
  (q__law_make_5 r__law_make)
  skipM)
@[simp] theorem e__law_make_4 (r__law_make : FM) (ρ : Ev) : q__law_make_4 r__law_make ρ = (ifM (asB (binN pyEq 1 (cst (.str "or"))))
  (q__law_make_5 r__law_make)
  skipM) ρ := (rfl)
def q__law_make_7 (r__law_make : FM) : SM := (retM (invE 3 m_Test____invert__ (callE r__law_make (argV (binN pyIx 0 (cst (.int 1))) argNil))))
@[simp] theorem e__law_make_7 (r__law_make : FM) (ρ : Ev) : q__law_make_7 r__law_make ρ = (retM (invE 3 m_Test____invert__ (callE r__law_make (argV (binN pyIx 0 (cst (.int 1))) argNil)))) ρ := (rfl)
def q__law_make_6 (r__law_make : FM) : SM := (ifM (asB (binN pyEq 1 (cst (.str "not"))))
  (q__law_make_7 r__law_make)
  skipM)
@[simp] theorem e__law_make_6 (r__law_make : FM) (ρ : Ev) : q__law_make_6 r__law_make ρ = (ifM (asB (binN pyEq 1 (cst (.str "not"))))
  (q__law_make_7 r__law_make)
  skipM) ρ := (rfl)
def q__law_make_9 (r__law_make : FM) : SM := (retM (callE m_sure (argV (callE r__law_make (argV (binN pyIx 0 (cst (.int 1))) argNil)) argNil)))
@[simp] theorem e__law_make_9 (r__law_make : FM) (ρ : Ev) : q__law_make_9 r__law_make ρ = (retM (callE m_sure (argV (callE r__law_make (argV (binN pyIx 0 (cst (.int 1))) argNil)) argNil))) ρ := (rfl)
def q__law_make_8 (r__law_make : FM) : SM := (ifM (asB (binN pyEq 1 (cst (.str "sure"))))
  (q__law_make_9 r__law_make)
  skipM)
@[simp] theorem e__law_make_8 (r__law_make : FM) (ρ : Ev) : q__law_make_8 r__law_make ρ = (ifM (asB (binN pyEq 1 (cst (.str "sure"))))
  (q__law_make_9 r__law_make)
  skipM) ρ := (rfl)
def q__law_make_11 (r__law_make : FM) : SM := (retM (callE m_always argNil))
@[simp] theorem e__law_make_11 (r__law_make : FM) (ρ : Ev) : q__law_make_11 r__law_make ρ = (retM (callE m_always argNil)) ρ := (rfl)
def q__law_make_10 (r__law_make : FM) : SM := (ifM (asB (binN pyEq 1 (cst (.str "always"))))
  (q__law_make_11 r__law_make)
  skipM)
@[simp] theorem e__law_make_10 (r__law_make : FM) (ρ : Ev) : q__law_make_10 r__law_make ρ = (ifM (asB (binN pyEq 1 (cst (.str "always"))))
  (q__law_make_11 r__law_make)
  skipM) ρ := (rfl)
def q__law_make_13 (r__law_make : FM) : SM := (retM (callE m_never argNil))
@[simp] theorem e__law_make_13 (r__law_make : FM) (ρ : Ev) : q__law_make_13 r__law_make ρ = (retM (callE m_never argNil)) ρ := (rfl)
def q__law_make_12 (r__law_make : FM) : SM := (ifM (asB (binN pyEq 1 (cst (.str "never"))))
  (q__law_make_13 r__law_make)
  skipM)
@[simp] theorem e__law_make_12 (r__law_make : FM) (ρ : Ev) : q__law_make_12 r__law_make ρ = (ifM (asB (binN pyEq 1 (cst (.str "never"))))
  (q__law_make_13 r__law_make)
  skipM) ρ := (rfl)
def q__law_make_15 (r__law_make : FM) : SM := (retM (callE m_empty (argV (binN pyIx 0 (cst (.int 1))) argNil)))
@[simp] theorem e__law_make_15 (r__law_make : FM) (ρ : Ev) : q__law_make_15 r__law_make ρ = (retM (callE m_empty (argV (binN pyIx 0 (cst (.int 1))) argNil))) ρ := (rfl)
def q__law_make_14 (r__law_make : FM) : SM := (ifM (asB (binN pyEq 1 (cst (.str "empty"))))
  (q__law_make_15 r__law_make)
  skipM)
@[simp] theorem e__law_make_14 (r__law_make : FM) (ρ : Ev) : q__law_make_14 r__law_make ρ = (ifM (asB (binN pyEq 1 (cst (.str "empty"))))
  (q__law_make_15 r__law_make)
  skipM) ρ := (rfl)
def q__law_make_17 (r__law_make : FM) : SM := (retM (callE m_among (argV (binN pyIx 0 (cst (.int 1))) (argV (frz (listM (binN pyIx 0 (cst (.int 2))))) argNil))))
@[simp] theorem e__law_make_17 (r__law_make : FM) (ρ : Ev) : q__law_make_17 r__law_make ρ = (retM (callE m_among (argV (binN pyIx 0 (cst (.int 1))) (argV (frz (listM (binN pyIx 0 (cst (.int 2))))) argNil)))) ρ := (rfl)
def q__law_make_16 (r__law_make : FM) : SM := (ifM (asB (binN pyEq 1 (cst (.str "among"))))
  (q__law_make_17 r__law_make)
  skipM)
@[simp] theorem e__law_make_16 (r__law_make : FM) (ρ : Ev) : q__law_make_16 r__law_make ρ = (ifM (asB (binN pyEq 1 (cst (.str "among"))))
  (q__law_make_17 r__law_make)
  skipM) ρ := (rfl)
def q__law_make_19 (r__law_make : FM) : SM := (retM (callE m_begins (argV (binN pyIx 0 (cst (.int 1))) (argV (binN pyIx 0 (cst (.int 2))) argNil))))
@[simp] theorem e__law_make_19 (r__law_make : FM) (ρ : Ev) : q__law_make_19 r__law_make ρ = (retM (callE m_begins (argV (binN pyIx 0 (cst (.int 1))) (argV (binN pyIx 0 (cst (.int 2))) argNil)))) ρ := (rfl)
def q__law_make_18 (r__law_make : FM) : SM := (ifM (asB (binN pyEq 1 (cst (.str "begins"))))
  (q__law_make_19 r__law_make)
  skipM)
@[simp] theorem e__law_make_18 (r__law_make : FM) (ρ : Ev) : q__law_make_18 r__law_make ρ = (ifM (asB (binN pyEq 1 (cst (.str "begins"))))
  (q__law_make_19 r__law_make)
  skipM) ρ := (rfl)
def q__law_make_21 (r__law_make : FM) : SM := (retM (callE m_compare (argV (binN pyIx 0 (cst (.int 1))) (argV (binN pyIx 0 (cst (.int 2))) (argV (binN pyIx 0 (cst (.int 3))) argNil)))))
@[simp] theorem e__law_make_21 (r__law_make : FM) (ρ : Ev) : q__law_make_21 r__law_make ρ = (retM (callE m_compare (argV (binN pyIx 0 (cst (.int 1))) (argV (binN pyIx 0 (cst (.int 2))) (argV (binN pyIx 0 (cst (.int 3))) argNil))))) ρ := (rfl)
def q__law_make_20 (r__law_make : FM) : SM := (ifM (asB (binN pyEq 1 (cst (.str "compare"))))
  (q__law_make_21 r__law_make)
  skipM)
@[simp] theorem e__law_make_20 (r__law_make : FM) (ρ : Ev) : q__law_make_20 r__law_make ρ = (ifM (asB (binN pyEq 1 (cst (.str "compare"))))
  (q__law_make_21 r__law_make)
  skipM) ρ := (rfl)
def q__law_make_23 (r__law_make : FM) : SM := (retM (callE m_against (argsK 3 0 [.at 0, .at 1, .at 2, .df 0 (.int 0)] (argV (binN pyIx 0 (cst (.int 1))) (argV (binN pyIx 0 (cst (.int 2))) (argV (binN pyIx 0 (cst (.int 3))) argNil))) argNil)))
@[simp] theorem e__law_make_23 (r__law_make : FM) (ρ : Ev) : q__law_make_23 r__law_make ρ = (retM (callE m_against (argsK 3 0 [.at 0, .at 1, .at 2, .df 0 (.int 0)] (argV (binN pyIx 0 (cst (.int 1))) (argV (binN pyIx 0 (cst (.int 2))) (argV (binN pyIx 0 (cst (.int 3))) argNil))) argNil))) ρ := (rfl)
def q__law_make_22 (r__law_make : FM) : SM := (ifM (asB (bin pyEq (binN pyIx 0 (cst (.int 4))) (cst (.int 0))))
  (q__law_make_23 r__law_make)
  skipM)
@[simp] theorem e__law_make_22 (r__law_make : FM) (ρ : Ev) : q__law_make_22 r__law_make ρ = (ifM (asB (bin pyEq (binN pyIx 0 (cst (.int 4))) (cst (.int 0))))
  (q__law_make_23 r__law_make)
  skipM) ρ := (rfl)
def q__law_make_24 (r__law_make : FM) : SM := (retM (callE m_against (argsK 3 1 [.at 0, .at 1, .at 2, .at 3] (argV (binN pyIx 0 (cst (.int 1))) (argV (binN pyIx 0 (cst (.int 2))) (argV (binN pyIx 0 (cst (.int 3))) argNil))) (argV (binN pyIx 0 (cst (.int 4))) argNil))))
@[simp] theorem e__law_make_24 (r__law_make : FM) (ρ : Ev) : q__law_make_24 r__law_make ρ = (retM (callE m_against (argsK 3 1 [.at 0, .at 1, .at 2, .at 3] (argV (binN pyIx 0 (cst (.int 1))) (argV (binN pyIx 0 (cst (.int 2))) (argV (binN pyIx 0 (cst (.int 3))) argNil))) (argV (binN pyIx 0 (cst (.int 4))) argNil)))) ρ := (rfl)
def b__law_make (r__law_make : FM) : FM := fnB 1 2
  (seqM (q__law_make_1 r__law_make)
  (seqM (q__law_make_2 r__law_make)
  (seqM (q__law_make_4 r__law_make)
  (seqM (q__law_make_6 r__law_make)
  (seqM (q__law_make_8 r__law_make)
  (seqM (q__law_make_10 r__law_make)
  (seqM (q__law_make_12 r__law_make)
  (seqM (q__law_make_14 r__law_make)
  (seqM (q__law_make_16 r__law_make)
  (seqM (q__law_make_18 r__law_make)
  (seqM (q__law_make_20 r__law_make)
  (seqM (q__law_make_22 r__law_make)
  (q__law_make_24 r__law_make)))))))))))))
mutual
def m__law_make : Nat → FM
  | 0 => stF
  | n + 1 => b__law_make (m__law_make n)
end
theorem em__law_make (n : Nat) (as : List Slot) : m__law_make (n + 1) as = if as.length = 1 then fin 1 as ((seqM (q__law_make_1 (m__law_make n))
  (seqM (q__law_make_2 (m__law_make n))
  (seqM (q__law_make_4 (m__law_make n))
  (seqM (q__law_make_6 (m__law_make n))
  (seqM (q__law_make_8 (m__law_make n))
  (seqM (q__law_make_10 (m__law_make n))
  (seqM (q__law_make_12 (m__law_make n))
  (seqM (q__law_make_14 (m__law_make n))
  (seqM (q__law_make_16 (m__law_make n))
  (seqM (q__law_make_18 (m__law_make n))
  (seqM (q__law_make_20 (m__law_make n))
  (seqM (q__law_make_22 (m__law_make n))
  (q__law_make_24 (m__law_make n)))))))))))))) (enter 2 as)) else .stuck := by
  rw [m__law_make]
  exact ev_fn _ _ _ as
theorem okb__law_make {P : Program} {w : World} {K : PySem.W.Frag} {mg : Str → Option Value} {base : Heap} {k : Nat} (hk : 45 ≤ k) (r__law_make : FM) (B : BN K mg) (C_Test____and__ : MtAt P w K mg base (DW K mg) 45 "__and__" 3 m_Test____and__) (C_Test____or__ : MtAt P w K mg base (DW K mg) 45 "__or__" 3 m_Test____or__) (C_Test____invert__ : MtAt P w K mg base (DW K mg) 44 "__invert__" 3 m_Test____invert__) (C_sure : FnAt P w K mg base (DW K mg) 44 "sure" ["test"] m_sure) (C_always : FnAt P w K mg base (DW K mg) 3 "always" [] m_always) (C_never : FnAt P w K mg base (DW K mg) 3 "never" [] m_never) (C_empty : FnAt P w K mg base (DW K mg) 3 "empty" ["column"] m_empty) (C_among : FnAt P w K mg base (DW K mg) 4 "among" ["column", "values"] m_among) (C_begins : FnAt P w K mg base (DW K mg) 3 "begins" ["column", "prefix"] m_begins) (C_compare : FnAt P w K mg base (DW K mg) 4 "compare" ["column", "op", "value"] m_compare) (C_against : FnAtK P w K mg base (DW K mg) 3 "against" ["column", "op", "other", "more"] [⟨3, [], [.at 0, .at 1, .at 2, .df 0 (.int 0)]⟩, ⟨3, ["more"], [.at 0, .at 1, .at 2, .at 3]⟩] m_against) (C__law_make : FnAt P w K mg base (DW K mg) k "_law_make" ["_law_form_here"] r__law_make) (d : DefAt K mg "_law_make" s__law_make ["_law_form_here"]) : FnAt P w K mg base (DW K mg) (k + 1) "_law_make" ["_law_form_here"] (b__law_make r__law_make) :=
  fn_at d sc__law_make rfl (by decide) fun cdv A outer s H E hr tk =>
  (ss_cons (s_set (i := 1) sc__law_make.nd rfl (by first | exact Or.inl rfl | exact Or.inr rfl) (re_ixN (hu1 hr) rfl (pv 0) (rp_of re_int)))
  (ss_cons (s_if (rb_cmpN (nomark _) (op_eqP hr.units) sn_eq (pv 1) (rp_of re_str))
  (ss_one (s_ret (re_dun rfl B.du_3 C_Test____and__ (hr.mono (by omega)) tk (re_callA C__law_make (hr.mono (by omega)) tk (ra_v (re_ixN (hu1 hr) rfl (pv 0) (rp_of re_int)) ra_nil)) (re_callA C__law_make (hr.mono (by omega)) tk (ra_v (re_ixN (hu1 hr) rfl (pv 0) (rp_of re_int)) ra_nil)))))
  ss_nil)
  (ss_cons (s_if (rb_cmpN (nomark _) (op_eqP hr.units) sn_eq (pv 1) (rp_of re_str))
  (ss_one (s_ret (re_dun rfl B.du_3 C_Test____or__ (hr.mono (by omega)) tk (re_callA C__law_make (hr.mono (by omega)) tk (ra_v (re_ixN (hu1 hr) rfl (pv 0) (rp_of re_int)) ra_nil)) (re_callA C__law_make (hr.mono (by omega)) tk (ra_v (re_ixN (hu1 hr) rfl (pv 0) (rp_of re_int)) ra_nil)))))
  ss_nil)
  (ss_cons (s_if (rb_cmpN (nomark _) (op_eqP hr.units) sn_eq (pv 1) (rp_of re_str))
  (ss_one (s_ret (re_inv C_Test____invert__ (hr.mono (by omega)) tk (re_callA C__law_make (hr.mono (by omega)) tk (ra_v (re_ixN (hu1 hr) rfl (pv 0) (rp_of re_int)) ra_nil)))))
  ss_nil)
  (ss_cons (s_if (rb_cmpN (nomark _) (op_eqP hr.units) sn_eq (pv 1) (rp_of re_str))
  (ss_one (s_ret (re_callA C_sure (hr.mono (by omega)) tk (ra_v (re_callA C__law_make (hr.mono (by omega)) tk (ra_v (re_ixN (hu1 hr) rfl (pv 0) (rp_of re_int)) ra_nil)) ra_nil))))
  ss_nil)
  (ss_cons (s_if (rb_cmpN (nomark _) (op_eqP hr.units) sn_eq (pv 1) (rp_of re_str))
  (ss_one (s_ret (re_callA0 C_always (hr.mono (by omega)) tk)))
  ss_nil)
  (ss_cons (s_if (rb_cmpN (nomark _) (op_eqP hr.units) sn_eq (pv 1) (rp_of re_str))
  (ss_one (s_ret (re_callA0 C_never (hr.mono (by omega)) tk)))
  ss_nil)
  (ss_cons (s_if (rb_cmpN (nomark _) (op_eqP hr.units) sn_eq (pv 1) (rp_of re_str))
  (ss_one (s_ret (re_callA C_empty (hr.mono (by omega)) tk (ra_v (re_ixN (hu1 hr) rfl (pv 0) (rp_of re_int)) ra_nil))))
  ss_nil)
  (ss_cons (s_if (rb_cmpN (nomark _) (op_eqP hr.units) sn_eq (pv 1) (rp_of re_str))
  (ss_one (s_ret (re_callA C_among (hr.mono (by omega)) tk (ra_v (re_ixN (hu1 hr) rfl (pv 0) (rp_of re_int)) (ra_v (re_frz (rn_list rfl (rp_of (re_ixN (hu1 hr) rfl (pv 0) (rp_of re_int))) rfl B.b_list)) ra_nil)))))
  ss_nil)
  (ss_cons (s_if (rb_cmpN (nomark _) (op_eqP hr.units) sn_eq (pv 1) (rp_of re_str))
  (ss_one (s_ret (re_callA C_begins (hr.mono (by omega)) tk (ra_v (re_ixN (hu1 hr) rfl (pv 0) (rp_of re_int)) (ra_v (re_ixN (hu1 hr) rfl (pv 0) (rp_of re_int)) ra_nil)))))
  ss_nil)
  (ss_cons (s_if (rb_cmpN (nomark _) (op_eqP hr.units) sn_eq (pv 1) (rp_of re_str))
  (ss_one (s_ret (re_callA C_compare (hr.mono (by omega)) tk (ra_v (re_ixN (hu1 hr) rfl (pv 0) (rp_of re_int)) (ra_v (re_ixN (hu1 hr) rfl (pv 0) (rp_of re_int)) (ra_v (re_ixN (hu1 hr) rfl (pv 0) (rp_of re_int)) ra_nil))))))
  ss_nil)
  (ss_cons (s_if (rb_cmp (nomark _) (op_eqP hr.units) sn_eq (re_ixN (hu1 hr) rfl (pv 0) (rp_of re_int)) (rp_of re_int))
  (ss_one (s_ret (re_callK (sh := ⟨3, [], [.at 0, .at 1, .at 2, .df 0 (.int 0)]⟩) C_against (by simp) (hr.mono (by omega)) tk (ra_v (re_ixN (hu1 hr) rfl (pv 0) (rp_of re_int)) (ra_v (re_ixN (hu1 hr) rfl (pv 0) (rp_of re_int)) (ra_v (re_ixN (hu1 hr) rfl (pv 0) (rp_of re_int)) ra_nil))) rk_nil)))
  ss_nil)
  (ss_one (s_ret (re_callK (sh := ⟨3, ["more"], [.at 0, .at 1, .at 2, .at 3]⟩) C_against (by simp) (hr.mono (by omega)) tk (ra_v (re_ixN (hu1 hr) rfl (pv 0) (rp_of re_int)) (ra_v (re_ixN (hu1 hr) rfl (pv 0) (rp_of re_int)) (ra_v (re_ixN (hu1 hr) rfl (pv 0) (rp_of re_int)) ra_nil))) (rk_v (re_ixN (hu1 hr) rfl (pv 0) (rp_of re_int)) rk_nil))))))))))))))))
theorem oks__law_make {P : Program} {w : World} {K : PySem.W.Frag} {mg : Str → Option Value} {base : Heap} (B : BN K mg) (C_Test____and__ : MtAt P w K mg base (DW K mg) 45 "__and__" 3 m_Test____and__) (C_Test____or__ : MtAt P w K mg base (DW K mg) 45 "__or__" 3 m_Test____or__) (C_Test____invert__ : MtAt P w K mg base (DW K mg) 44 "__invert__" 3 m_Test____invert__) (C_sure : FnAt P w K mg base (DW K mg) 44 "sure" ["test"] m_sure) (C_always : FnAt P w K mg base (DW K mg) 3 "always" [] m_always) (C_never : FnAt P w K mg base (DW K mg) 3 "never" [] m_never) (C_empty : FnAt P w K mg base (DW K mg) 3 "empty" ["column"] m_empty) (C_among : FnAt P w K mg base (DW K mg) 4 "among" ["column", "values"] m_among) (C_begins : FnAt P w K mg base (DW K mg) 3 "begins" ["column", "prefix"] m_begins) (C_compare : FnAt P w K mg base (DW K mg) 4 "compare" ["column", "op", "value"] m_compare) (C_against : FnAtK P w K mg base (DW K mg) 3 "against" ["column", "op", "other", "more"] [⟨3, [], [.at 0, .at 1, .at 2, .df 0 (.int 0)]⟩, ⟨3, ["more"], [.at 0, .at 1, .at 2, .at 3]⟩] m_against) (d__law_make : DefAt K mg "_law_make" s__law_make ["_law_form_here"]) : ∀ n : Nat, (FnAt P w K mg base (DW K mg) (45 + n) "_law_make" ["_law_form_here"] (m__law_make n))
  | 0 => (by rw [m__law_make]; exact at_stk d__law_make)
  | n + 1 => by
    have i__law_make := oks__law_make (P := P) (w := w) (base := base) B C_Test____and__ C_Test____or__ C_Test____invert__ C_sure C_always C_never C_empty C_among C_begins C_compare C_against d__law_make n
    exact (by rw [m__law_make]; exact okb__law_make (Nat.le_add_right _ _) _ B C_Test____and__ C_Test____or__ C_Test____invert__ C_sure C_always C_never C_empty C_among C_begins C_compare C_against i__law_make d__law_make)
theorem ok__law_make {P : Program} {w : World} {K : PySem.W.Frag} {mg : Str → Option Value} {base : Heap} (B : BN K mg) (C_Test____and__ : MtAt P w K mg base (DW K mg) 45 "__and__" 3 m_Test____and__) (C_Test____or__ : MtAt P w K mg base (DW K mg) 45 "__or__" 3 m_Test____or__) (C_Test____invert__ : MtAt P w K mg base (DW K mg) 44 "__invert__" 3 m_Test____invert__) (C_sure : FnAt P w K mg base (DW K mg) 44 "sure" ["test"] m_sure) (C_always : FnAt P w K mg base (DW K mg) 3 "always" [] m_always) (C_never : FnAt P w K mg base (DW K mg) 3 "never" [] m_never) (C_empty : FnAt P w K mg base (DW K mg) 3 "empty" ["column"] m_empty) (C_among : FnAt P w K mg base (DW K mg) 4 "among" ["column", "values"] m_among) (C_begins : FnAt P w K mg base (DW K mg) 3 "begins" ["column", "prefix"] m_begins) (C_compare : FnAt P w K mg base (DW K mg) 4 "compare" ["column", "op", "value"] m_compare) (C_against : FnAtK P w K mg base (DW K mg) 3 "against" ["column", "op", "other", "more"] [⟨3, [], [.at 0, .at 1, .at 2, .df 0 (.int 0)]⟩, ⟨3, ["more"], [.at 0, .at 1, .at 2, .at 3]⟩] m_against) (d__law_make : DefAt K mg "_law_make" s__law_make ["_law_form_here"]) : FnAt P w K mg base (DW K mg) 85 "_law_make" ["_law_form_here"] (m__law_make 40) := (oks__law_make B C_Test____and__ C_Test____or__ C_Test____invert__ C_sure C_always C_never C_empty C_among C_begins C_compare C_against d__law_make 40)
abbrev s_Test__kind : Stmt := inCls (top 19) 1
abbrev n_Test__kind : List Str := ["self"]
theorem sc_Test__kind : FnScope n_Test__kind ["self"] (defScope s_Test__kind) := ⟨rfl, rfl, rfl, by decide +kernel, rfl, by decide +kernel, by decide +kernel⟩
def q_Test__kind_1  : SM := (retM (fldM [3] "_kind" (peek 0)))
@[simp] theorem e_Test__kind_1  (ρ : Ev) : q_Test__kind_1  ρ = (retM (fldM [3] "_kind" (peek 0))) ρ := (rfl)
def m_Test__kind : FM := fnB 1 1
  q_Test__kind_1
theorem em_Test__kind (as : List Slot) : m_Test__kind as = if as.length = 1 then fin 1 as (q_Test__kind_1 (enter 1 as)) else .stuck := ev_fn _ _ _ as
theorem ok_Test__kind {P : Program} {w : World} {K : PySem.W.Frag} {mg : Str → Option Value} {base : Heap} (B : BN K mg) (d : DefMt K (DW K mg) 3 "kind" "Test.kind" s_Test__kind ["self"]) : MtAt P w K mg base (DW K mg) 1 "kind" 3 m_Test__kind :=
  mt_at d sc_Test__kind rfl (by decide) fun cdv A outer s H E hr tk =>
  (ss_one (s_ret (re_fld rfl (rp_var 0 (pv 0)) (cfs_cons B.f_3__kind cfs_nil))))
abbrev s_Test__data : Stmt := inCls (top 19) 2
abbrev n_Test__data : List Str := ["self"]
theorem sc_Test__data : FnScope n_Test__data ["self"] (defScope s_Test__data) := ⟨rfl, rfl, rfl, by decide +kernel, rfl, by decide +kernel, by decide +kernel⟩
def q_Test__data_1  : SM := (retM (fldM [3] "_data" (peek 0)))
@[simp] theorem e_Test__data_1  (ρ : Ev) : q_Test__data_1  ρ = (retM (fldM [3] "_data" (peek 0))) ρ := (rfl)
def m_Test__data : FM := fnB 1 1
  q_Test__data_1
theorem em_Test__data (as : List Slot) : m_Test__data as = if as.length = 1 then fin 1 as (q_Test__data_1 (enter 1 as)) else .stuck := ev_fn _ _ _ as
theorem ok_Test__data {P : Program} {w : World} {K : PySem.W.Frag} {mg : Str → Option Value} {base : Heap} (B : BN K mg) (d : DefMt K (DW K mg) 3 "data" "Test.data" s_Test__data ["self"]) : MtAt P w K mg base (DW K mg) 1 "data" 3 m_Test__data :=
  mt_at d sc_Test__data rfl (by decide) fun cdv A outer s H E hr tk =>
  (ss_one (s_ret (re_fld rfl (rp_var 0 (pv 0)) (cfs_cons B.f_3__data cfs_nil))))
abbrev s_Test__parts : Stmt := inCls (top 19) 3
abbrev n_Test__parts : List Str := ["self"]
theorem sc_Test__parts : FnScope n_Test__parts ["self"] (defScope s_Test__parts) := ⟨rfl, rfl, rfl, by decide +kernel, rfl, by decide +kernel, by decide +kernel⟩
def q_Test__parts_1  : SM := (retO (listM (fldM [3] "_parts" (peek 0))))
@[simp] theorem e_Test__parts_1  (ρ : Ev) : q_Test__parts_1  ρ = (retO (listM (fldM [3] "_parts" (peek 0)))) ρ := (rfl)
def m_Test__parts : FM := fnB 1 1
  q_Test__parts_1
theorem em_Test__parts (as : List Slot) : m_Test__parts as = if as.length = 1 then fin 1 as (q_Test__parts_1 (enter 1 as)) else .stuck := ev_fn _ _ _ as
theorem ok_Test__parts {P : Program} {w : World} {K : PySem.W.Frag} {mg : Str → Option Value} {base : Heap} (B : BN K mg) (d : DefMt K (DW K mg) 3 "parts" "Test.parts" s_Test__parts ["self"]) : MtAt P w K mg base (DW K mg) 1 "parts" 3 m_Test__parts :=
  mt_at d sc_Test__parts rfl (by decide) fun cdv A outer s H E hr tk =>
  (ss_one (s_retO (rn_list rfl (rp_of (re_fld rfl (rp_var 0 (pv 0)) (cfs_cons B.f_3__parts cfs_nil))) rfl B.b_list)))
abbrev s_Test____eq__ : Stmt := inCls (top 19) 12
abbrev n_Test____eq__ : List Str := ["self", "other"]
theorem sc_Test____eq__ : FnScope n_Test____eq__ ["self", "other"] (defScope s_Test____eq__) := ⟨rfl, rfl, rfl, by decide +kernel, rfl, by decide +kernel, by decide +kernel⟩
def q_Test____eq___2 (r_Test____eq__ : FM) : SM := (retM (cst (.bl false)))
@[simp] theorem e_Test____eq___2 (r_Test____eq__ : FM) (ρ : Ev) : q_Test____eq___2 r_Test____eq__ ρ = (retM (cst (.bl false))) ρ := (rfl)
def q_Test____eq___1 (r_Test____eq__ : FM) : SM := (ifM (notM (truM (isCM (peek 1) [3])))
  (q_Test____eq___2 r_Test____eq__)
  skipM)
@[simp] theorem e_Test____eq___1 (r_Test____eq__ : FM) (ρ : Ev) : q_Test____eq___1 r_Test____eq__ ρ = (ifM (notM (truM (isCM (peek 1) [3])))
  (q_Test____eq___2 r_Test____eq__)
  skipM) ρ := (rfl)
def q_Test____eq___3 (r_Test____eq__ : FM) : SM := (retM (andV' (bin (pyEqO [(3, r_Test____eq__)] 0) (fldM [3] "_kind" (peek 0)) (mthE [(3, m_Test__kind)] "kind" (selfN 1) argNil)) (andV' (bin (pyEqO [(3, r_Test____eq__)] 0) (fldM [3] "_data" (peek 0)) (mthE [(3, m_Test__data)] "data" (selfN 1) argNil)) (bin (pyEqO [(3, r_Test____eq__)] 0) (fldM [3] "_parts" (peek 0)) (callB bTup (argV (mthE [(3, m_Test__parts)] "parts" (selfN 1) argNil) argNil))))))
@[simp] theorem e_Test____eq___3 (r_Test____eq__ : FM) (ρ : Ev) : q_Test____eq___3 r_Test____eq__ ρ = (retM (andV' (bin (pyEqO [(3, r_Test____eq__)] 0) (fldM [3] "_kind" (peek 0)) (mthE [(3, m_Test__kind)] "kind" (selfN 1) argNil)) (andV' (bin (pyEqO [(3, r_Test____eq__)] 0) (fldM [3] "_data" (peek 0)) (mthE [(3, m_Test__data)] "data" (selfN 1) argNil)) (bin (pyEqO [(3, r_Test____eq__)] 0) (fldM [3] "_parts" (peek 0)) (callB bTup (argV (mthE [(3, m_Test__parts)] "parts" (selfN 1) argNil) argNil)))))) ρ := (rfl)
def b_Test____eq__ (r_Test____eq__ : FM) : FM := fnB 2 2
  (seqM (q_Test____eq___1 r_Test____eq__)
  (q_Test____eq___3 r_Test____eq__))
mutual
def m_Test____eq__ : Nat → FM
  | 0 => stF
  | n + 1 => b_Test____eq__ (m_Test____eq__ n)
end
theorem em_Test____eq__ (n : Nat) (as : List Slot) : m_Test____eq__ (n + 1) as = if as.length = 2 then fin 2 as ((seqM (q_Test____eq___1 (m_Test____eq__ n))
  (q_Test____eq___3 (m_Test____eq__ n))) (enter 2 as)) else .stuck := by
  rw [m_Test____eq__]
  exact ev_fn _ _ _ as
theorem okb_Test____eq__ {P : Program} {w : World} {K : PySem.W.Frag} {mg : Str → Option Value} {base : Heap} {k : Nat} (hk : 1 ≤ k) (r_Test____eq__ : FM) (B : BN K mg) (C_Test__kind : MtAt P w K mg base (DW K mg) 1 "kind" 3 m_Test__kind) (C_Test__data : MtAt P w K mg base (DW K mg) 1 "data" 3 m_Test__data) (C_Test__parts : MtAt P w K mg base (DW K mg) 1 "parts" 3 m_Test__parts) (C_Test____eq__ : MtAt P w K mg base (DW K mg) k "__eq__" 3 r_Test____eq__) (d : DefMt K (DW K mg) 3 "__eq__" "Test.__eq__" s_Test____eq__ ["self", "other"]) : MtAt P w K mg base (DW K mg) (k + 2) "__eq__" 3 (b_Test____eq__ r_Test____eq__) :=
  mt_at d sc_Test____eq__ rfl (by decide) fun cdv A outer s H E hr tk =>
  (ss_cons (s_if (rb_not (rb_truth (rp_of (re_isc B.hT B.i_Test rfl (rp_var 1 (pv 1)) rfl B.b_isinstance)) rfl))
  (ss_one (s_ret re_bl))
  ss_nil)
  (ss_one (s_ret (re_and (re_eqO (d := 0) rfl hr.units (tbl_cons C_Test____eq__ tbl_nil) (dun_one B.du_3) (hr.mono (by omega)) (re_fld rfl (rp_var 0 (pv 0)) (cfs_cons B.f_3__kind cfs_nil)) (rp_of (re_mth0 (tbl_cons (C_Test__kind.mono (by omega)) tbl_nil) hr tk (rs_n 1 (pv 1))))) (re_and (re_eqO (d := 0) rfl hr.units (tbl_cons C_Test____eq__ tbl_nil) (dun_one B.du_3) (hr.mono (by omega)) (re_fld rfl (rp_var 0 (pv 0)) (cfs_cons B.f_3__data cfs_nil)) (rp_of (re_mth0 (tbl_cons (C_Test__data.mono (by omega)) tbl_nil) hr tk (rs_n 1 (pv 1))))) (re_one (re_eqO (d := 0) rfl hr.units (tbl_cons C_Test____eq__ tbl_nil) (dun_one B.du_3) (hr.mono (by omega)) (re_fld rfl (rp_var 0 (pv 0)) (cfs_cons B.f_3__parts cfs_nil)) (rp_of (re_tup1 (hK := rfl) (hg := rfl) (hm := B.b_tuple) (ha := (ra_v (re_mth0 (tbl_cons (C_Test__parts.mono (by omega)) tbl_nil) hr tk (rs_n 1 (pv 1))) ra_nil)))))) rfl) rfl))))
theorem oks_Test____eq__ {P : Program} {w : World} {K : PySem.W.Frag} {mg : Str → Option Value} {base : Heap} (B : BN K mg) (C_Test__kind : MtAt P w K mg base (DW K mg) 1 "kind" 3 m_Test__kind) (C_Test__data : MtAt P w K mg base (DW K mg) 1 "data" 3 m_Test__data) (C_Test__parts : MtAt P w K mg base (DW K mg) 1 "parts" 3 m_Test__parts) (d_Test____eq__ : DefMt K (DW K mg) 3 "__eq__" "Test.__eq__" s_Test____eq__ ["self", "other"]) : ∀ n : Nat, (MtAt P w K mg base (DW K mg) (1 + 2 * n) "__eq__" 3 (m_Test____eq__ n))
  | 0 => (by rw [m_Test____eq__]; exact mt_stk d_Test____eq__)
  | n + 1 => by
    have i_Test____eq__ := oks_Test____eq__ (P := P) (w := w) (base := base) B C_Test__kind C_Test__data C_Test__parts d_Test____eq__ n
    exact (by rw [m_Test____eq__]; exact okb_Test____eq__ (Nat.le_add_right _ _) _ B C_Test__kind C_Test__data C_Test__parts i_Test____eq__ d_Test____eq__)
theorem ok_Test____eq__ {P : Program} {w : World} {K : PySem.W.Frag} {mg : Str → Option Value} {base : Heap} (B : BN K mg) (C_Test__kind : MtAt P w K mg base (DW K mg) 1 "kind" 3 m_Test__kind) (C_Test__data : MtAt P w K mg base (DW K mg) 1 "data" 3 m_Test__data) (C_Test__parts : MtAt P w K mg base (DW K mg) 1 "parts" 3 m_Test__parts) (d_Test____eq__ : DefMt K (DW K mg) 3 "__eq__" "Test.__eq__" s_Test____eq__ ["self", "other"]) : MtAt P w K mg base (DW K mg) 81 "__eq__" 3 (m_Test____eq__ 40) := (oks_Test____eq__ B C_Test__kind C_Test__data C_Test__parts d_Test____eq__ 40)
abbrev s__law_are : Stmt := top 57
abbrev n__law_are : List Str := ["_law_tests", "_law_forms", "_law_at"]
theorem sc__law_are : FnScope n__law_are ["_law_tests", "_law_forms"] (defScope s__law_are) := ⟨rfl, rfl, rfl, by decide +kernel, rfl, by decide +kernel, by decide +kernel⟩
def q__law_are_2  : SM := (retM (cst (.bl false)))
@[simp] theorem e__law_are_2  (ρ : Ev) : q__law_are_2  ρ = (retM (cst (.bl false))) ρ := (rfl)
def q__law_are_1  : SM := (ifM (orM (notM (truM (isM (peek 0) .list))) (asB (bin pyNe (callB bLen (argN 0 argNil)) (callB bLen (argN 1 argNil)))))
  q__law_are_2
  skipM)
@[simp] theorem e__law_are_1  (ρ : Ev) : q__law_are_1  ρ = (ifM (orM (notM (truM (isM (peek 0) .list))) (asB (bin pyNe (callB bLen (argN 0 argNil)) (callB bLen (argN 1 argNil)))))
  q__law_are_2
  skipM) ρ := (rfl)
def q__law_are_5  : SM := (retM (cst (.bl false)))
@[simp] theorem e__law_are_5  (ρ : Ev) : q__law_are_5  ρ = (retM (cst (.bl false))) ρ := (rfl)
def q__law_are_4  : SM := (ifM (notM (asB (bin (pyEqO [(3, (m_Test____eq__ 40))] 0) (binN pyIx 0 (peek 2)) (callE (m__law_make 40) (argV (binN pyIx 1 (peek 2)) argNil)))))
  q__law_are_5
  skipM)
@[simp] theorem e__law_are_4  (ρ : Ev) : q__law_are_4  ρ = (ifM (notM (asB (bin (pyEqO [(3, (m_Test____eq__ 40))] 0) (binN pyIx 0 (peek 2)) (callE (m__law_make 40) (argV (binN pyIx 1 (peek 2)) argNil)))))
  q__law_are_5
  skipM) ρ := (rfl)
def q__law_are_3  : SM := (frM (itR1 (callB bLen (argN 1 argNil))) (tgN 2)
  q__law_are_4)
@[simp] theorem e__law_are_3  (ρ : Ev) : q__law_are_3  ρ = (frM (itR1 (callB bLen (argN 1 argNil))) (tgN 2)
  q__law_are_4) ρ := (rfl)
def q__law_are_6  : SM := (retM (cst (.bl true)))
@[simp] theorem e__law_are_6  (ρ : Ev) : q__law_are_6  ρ = (retM (cst (.bl true))) ρ := (rfl)
def m__law_are : FM := fnB 2 3
  (seqM q__law_are_1
  (seqM q__law_are_3
  q__law_are_6))
theorem em__law_are (as : List Slot) : m__law_are as = if as.length = 2 then fin 2 as ((seqM q__law_are_1
  (seqM q__law_are_3
  q__law_are_6)) (enter 3 as)) else .stuck := ev_fn _ _ _ as
theorem ok__law_are {P : Program} {w : World} {K : PySem.W.Frag} {mg : Str → Option Value} {base : Heap} (B : BN K mg) (C__law_make : FnAt P w K mg base (DW K mg) 85 "_law_make" ["_law_form_here"] (m__law_make 40)) (C_Test____eq__ : MtAt P w K mg base (DW K mg) 81 "__eq__" 3 (m_Test____eq__ 40)) (d : DefAt K mg "_law_are" s__law_are ["_law_tests", "_law_forms"]) : FnAt P w K mg base (DW K mg) 87 "_law_are" ["_law_tests", "_law_forms"] m__law_are :=
  fn_at d sc__law_are rfl (by decide) fun cdv A outer s H E hr tk =>
  (ss_cons (s_if (rb_w (rw_or (rb_not (rb_truth (rp_of (re_isi B.hT .list rfl (rp_var 0 (pv 0)) rfl B.b_isinstance rfl B.b_list PyProof.Rows.boot_list)) rfl)) (rw_or1 (rb_cmp (nomark _) (op_neP hr.units) sn_ne (re_len rfl (hg := rfl) (hm := B.b_len) (ha := (ra_n 0 (pv 0) ra_nil))) (rp_of (re_len rfl (hg := rfl) (hm := B.b_len) (ha := (ra_n 1 (pv 1) ra_nil))))))))
  (ss_one (s_ret re_bl))
  ss_nil)
  (ss_cons (s_fr (passes_of rfl) rfl (ri_r1 rfl B.b_range (re_len rfl (hg := rfl) (hm := B.b_len) (ha := (ra_n 1 (pv 1) ra_nil)))) (pg_name (i := 2) sc__law_are.nd rfl (by first | exact Or.inl rfl | exact Or.inr rfl)) (vs := [2]) (tgx_name (by decide))
  (ss_one (s_if (rb_not (rb_eqO (d := 0) rfl hr.units (tbl_cons C_Test____eq__ tbl_nil) (dun_one B.du_3) (hr.mono (by omega)) (re_ixN (hu1 hr) rfl (pv 0) (rp_var 2 (pv 2))) (rp_of (re_callA C__law_make (hr.mono (by omega)) tk (ra_v (re_ixN (hu1 hr) rfl (pv 1) (rp_var 2 (pv 2))) ra_nil)))))
  (ss_one (s_ret re_bl))
  ss_nil)))
  (ss_one (s_ret re_bl))))
abbrev s__law_inner : Stmt := top 56
abbrev n__law_inner : List Str := ["_law_form_here"]
theorem sc__law_inner : FnScope n__law_inner ["_law_form_here"] (defScope s__law_inner) := ⟨rfl, rfl, rfl, by decide +kernel, rfl, by decide +kernel, by decide +kernel⟩
def q__law_inner_2  : SM := (retO (lstM (argV (binN pyIx 0 (cst (.int 1))) (argV (binN pyIx 0 (cst (.int 2))) argNil))))
@[simp] theorem e__law_inner_2  (ρ : Ev) : q__law_inner_2  ρ = (retO (lstM (argV (binN pyIx 0 (cst (.int 1))) (argV (binN pyIx 0 (cst (.int 2))) argNil)))) ρ := (rfl)
def q__law_inner_1  : SM := (ifM (orM (asB (bin pyEq (binN pyIx 0 (cst (.int 0))) (cst (.str "and")))) (asB (bin pyEq (binN pyIx 0 (cst (.int 0))) (cst (.str "or")))))
  q__law_inner_2
  skipM)
@[simp] theorem e__law_inner_1  (ρ : Ev) : q__law_inner_1  ρ = (ifM (orM (asB (bin pyEq (binN pyIx 0 (cst (.int 0))) (cst (.str "and")))) (asB (bin pyEq (binN pyIx 0 (cst (.int 0))) (cst (.str "or")))))
  q__law_inner_2
  skipM) ρ := (rfl)
def q__law_inner_4  : SM := (retO (lstM (argV (binN pyIx 0 (cst (.int 1))) argNil)))
@[simp] theorem e__law_inner_4  (ρ : Ev) : q__law_inner_4  ρ = (retO (lstM (argV (binN pyIx 0 (cst (.int 1))) argNil))) ρ := (rfl)
def q__law_inner_3  : SM := (ifM (orM (asB (bin pyEq (binN pyIx 0 (cst (.int 0))) (cst (.str "not")))) (asB (bin pyEq (binN pyIx 0 (cst (.int 0))) (cst (.str "sure")))))
  q__law_inner_4
  skipM)
@[simp] theorem e__law_inner_3  (ρ : Ev) : q__law_inner_3  ρ = (ifM (orM (asB (bin pyEq (binN pyIx 0 (cst (.int 0))) (cst (.str "not")))) (asB (bin pyEq (binN pyIx 0 (cst (.int 0))) (cst (.str "sure")))))
  q__law_inner_4
  skipM) ρ := (rfl)
def q__law_inner_5  : SM := (retO (lstM argNil))
@[simp] theorem e__law_inner_5  (ρ : Ev) : q__law_inner_5  ρ = (retO (lstM argNil)) ρ := (rfl)
def m__law_inner : FM := fnB 1 1
  (seqM q__law_inner_1
  (seqM q__law_inner_3
  q__law_inner_5))
theorem em__law_inner (as : List Slot) : m__law_inner as = if as.length = 1 then fin 1 as ((seqM q__law_inner_1
  (seqM q__law_inner_3
  q__law_inner_5)) (enter 1 as)) else .stuck := ev_fn _ _ _ as
theorem ok__law_inner {P : Program} {w : World} {K : PySem.W.Frag} {mg : Str → Option Value} {base : Heap} (B : BN K mg) (d : DefAt K mg "_law_inner" s__law_inner ["_law_form_here"]) : FnAt P w K mg base (DW K mg) 1 "_law_inner" ["_law_form_here"] m__law_inner :=
  fn_at d sc__law_inner rfl (by decide) fun cdv A outer s H E hr tk =>
  (ss_cons (s_if (rb_w (rw_or (rb_cmp (nomark _) (op_eqP hr.units) sn_eq (re_ixN (hu1 hr) rfl (pv 0) (rp_of re_int)) (rp_of re_str)) (rw_or1 (rb_cmp (nomark _) (op_eqP hr.units) sn_eq (re_ixN (hu1 hr) rfl (pv 0) (rp_of re_int)) (rp_of re_str)))))
  (ss_one (s_retO (rn_lst (ra_v (re_ixN (hu1 hr) rfl (pv 0) (rp_of re_int)) (ra_v (re_ixN (hu1 hr) rfl (pv 0) (rp_of re_int)) ra_nil)))))
  ss_nil)
  (ss_cons (s_if (rb_w (rw_or (rb_cmp (nomark _) (op_eqP hr.units) sn_eq (re_ixN (hu1 hr) rfl (pv 0) (rp_of re_int)) (rp_of re_str)) (rw_or1 (rb_cmp (nomark _) (op_eqP hr.units) sn_eq (re_ixN (hu1 hr) rfl (pv 0) (rp_of re_int)) (rp_of re_str)))))
  (ss_one (s_retO (rn_lst (ra_v (re_ixN (hu1 hr) rfl (pv 0) (rp_of re_int)) ra_nil))))
  ss_nil)
  (ss_one (s_retO (rn_lst ra_nil)))))
abbrev s__law_atoms : Stmt := top 51
abbrev n__law_atoms : List Str := ["_law_form_here"]
theorem sc__law_atoms : FnScope n__law_atoms ["_law_form_here"] (defScope s__law_atoms) := ⟨rfl, rfl, rfl, by decide +kernel, rfl, by decide +kernel, by decide +kernel⟩
def q__law_atoms_2 (r__law_atoms : FM) : SM := (retM (bin pyAdd (callE r__law_atoms (argV (binN pyIx 0 (cst (.int 1))) argNil)) (callE r__law_atoms (argV (binN pyIx 0 (cst (.int 2))) argNil))))
@[simp] theorem e__law_atoms_2 (r__law_atoms : FM) (ρ : Ev) : q__law_atoms_2 r__law_atoms ρ = (retM (bin pyAdd (callE r__law_atoms (argV (binN pyIx 0 (cst (.int 1))) argNil)) (callE r__law_atoms (argV (binN pyIx 0 (cst (.int 2))) argNil)))) ρ := (rfl)
def q__law_atoms_1 (r__law_atoms : FM) : SM := (ifM (orM (asB (bin pyEq (binN pyIx 0 (cst (.int 0))) (cst (.str "and")))) (asB (bin pyEq (binN pyIx 0 (cst (.int 0))) (cst (.str "or")))))
  (q__law_atoms_2 r__law_atoms)
  skipM)
@[simp] theorem e__law_atoms_1 (r__law_atoms : FM) (ρ : Ev) : q__law_atoms_1 r__law_atoms ρ = (ifM (orM (asB (bin pyEq (binN pyIx 0 (cst (.int 0))) (cst (.str "and")))) (asB (bin pyEq (binN pyIx 0 (cst (.int 0))) (cst (.str "or")))))
  (q__law_atoms_2 r__law_atoms)
  skipM) ρ := (rfl)
def q__law_atoms_4 (r__law_atoms : FM) : SM := (retM (callE r__law_atoms (argV (binN pyIx 0 (cst (.int 1))) argNil)))
@[simp] theorem e__law_atoms_4 (r__law_atoms : FM) (ρ : Ev) : q__law_atoms_4 r__law_atoms ρ = (retM (callE r__law_atoms (argV (binN pyIx 0 (cst (.int 1))) argNil))) ρ := (rfl)
def q__law_atoms_3 (r__law_atoms : FM) : SM := (ifM (orM (asB (bin pyEq (binN pyIx 0 (cst (.int 0))) (cst (.str "not")))) (asB (bin pyEq (binN pyIx 0 (cst (.int 0))) (cst (.str "sure")))))
  (q__law_atoms_4 r__law_atoms)
  skipM)
@[simp] theorem e__law_atoms_3 (r__law_atoms : FM) (ρ : Ev) : q__law_atoms_3 r__law_atoms ρ = (ifM (orM (asB (bin pyEq (binN pyIx 0 (cst (.int 0))) (cst (.str "not")))) (asB (bin pyEq (binN pyIx 0 (cst (.int 0))) (cst (.str "sure")))))
  (q__law_atoms_4 r__law_atoms)
  skipM) ρ := (rfl)
def q__law_atoms_5 (r__law_atoms : FM) : SM := (retO (lstM (argV (getv 0) argNil)))
@[simp] theorem e__law_atoms_5 (r__law_atoms : FM) (ρ : Ev) : q__law_atoms_5 r__law_atoms ρ = (retO (lstM (argV (getv 0) argNil))) ρ := (rfl)
def b__law_atoms (r__law_atoms : FM) : FM := fnB 1 1
  (seqM (q__law_atoms_1 r__law_atoms)
  (seqM (q__law_atoms_3 r__law_atoms)
  (q__law_atoms_5 r__law_atoms)))
mutual
def m__law_atoms : Nat → FM
  | 0 => stF
  | n + 1 => b__law_atoms (m__law_atoms n)
end
theorem em__law_atoms (n : Nat) (as : List Slot) : m__law_atoms (n + 1) as = if as.length = 1 then fin 1 as ((seqM (q__law_atoms_1 (m__law_atoms n))
  (seqM (q__law_atoms_3 (m__law_atoms n))
  (q__law_atoms_5 (m__law_atoms n)))) (enter 1 as)) else .stuck := by
  rw [m__law_atoms]
  exact ev_fn _ _ _ as
theorem okb__law_atoms {P : Program} {w : World} {K : PySem.W.Frag} {mg : Str → Option Value} {base : Heap} {k : Nat} (hk : 0 ≤ k) (r__law_atoms : FM) (B : BN K mg) (C__law_atoms : FnAt P w K mg base (DW K mg) k "_law_atoms" ["_law_form_here"] r__law_atoms) (d : DefAt K mg "_law_atoms" s__law_atoms ["_law_form_here"]) : FnAt P w K mg base (DW K mg) (k + 1) "_law_atoms" ["_law_form_here"] (b__law_atoms r__law_atoms) :=
  fn_at d sc__law_atoms rfl (by decide) fun cdv A outer s H E hr tk =>
  (ss_cons (s_if (rb_w (rw_or (rb_cmp (nomark _) (op_eqP hr.units) sn_eq (re_ixN (hu1 hr) rfl (pv 0) (rp_of re_int)) (rp_of re_str)) (rw_or1 (rb_cmp (nomark _) (op_eqP hr.units) sn_eq (re_ixN (hu1 hr) rfl (pv 0) (rp_of re_int)) (rp_of re_str)))))
  (ss_one (s_ret (re_bin op_addP sn_add (re_callA C__law_atoms (hr.mono (by omega)) tk (ra_v (re_ixN (hu1 hr) rfl (pv 0) (rp_of re_int)) ra_nil)) (rp_of (re_callA C__law_atoms (hr.mono (by omega)) tk (ra_v (re_ixN (hu1 hr) rfl (pv 0) (rp_of re_int)) ra_nil))))))
  ss_nil)
  (ss_cons (s_if (rb_w (rw_or (rb_cmp (nomark _) (op_eqP hr.units) sn_eq (re_ixN (hu1 hr) rfl (pv 0) (rp_of re_int)) (rp_of re_str)) (rw_or1 (rb_cmp (nomark _) (op_eqP hr.units) sn_eq (re_ixN (hu1 hr) rfl (pv 0) (rp_of re_int)) (rp_of re_str)))))
  (ss_one (s_ret (re_callA C__law_atoms (hr.mono (by omega)) tk (ra_v (re_ixN (hu1 hr) rfl (pv 0) (rp_of re_int)) ra_nil))))
  ss_nil)
  (ss_one (s_retO (rn_lst (ra_v (re_var 0 (pv 0)) ra_nil))))))
theorem oks__law_atoms {P : Program} {w : World} {K : PySem.W.Frag} {mg : Str → Option Value} {base : Heap} (B : BN K mg) (d__law_atoms : DefAt K mg "_law_atoms" s__law_atoms ["_law_form_here"]) : ∀ n : Nat, (FnAt P w K mg base (DW K mg) (0 + n) "_law_atoms" ["_law_form_here"] (m__law_atoms n))
  | 0 => (by rw [m__law_atoms]; exact at_stk d__law_atoms)
  | n + 1 => by
    have i__law_atoms := oks__law_atoms (P := P) (w := w) (base := base) B d__law_atoms n
    exact (by rw [m__law_atoms]; exact okb__law_atoms (Nat.le_add_right _ _) _ B i__law_atoms d__law_atoms)
theorem ok__law_atoms {P : Program} {w : World} {K : PySem.W.Frag} {mg : Str → Option Value} {base : Heap} (B : BN K mg) (d__law_atoms : DefAt K mg "_law_atoms" s__law_atoms ["_law_form_here"]) : FnAt P w K mg base (DW K mg) 40 "_law_atoms" ["_law_form_here"] (m__law_atoms 40) := (oks__law_atoms B d__law_atoms 40)
abbrev s__law_conjuncts : Stmt := top 55
abbrev n__law_conjuncts : List Str := ["_law_form_here"]
theorem sc__law_conjuncts : FnScope n__law_conjuncts ["_law_form_here"] (defScope s__law_conjuncts) := ⟨rfl, rfl, rfl, by decide +kernel, rfl, by decide +kernel, by decide +kernel⟩
def q__law_conjuncts_2 (r__law_conjuncts : FM) : SM := (retM (bin pyAdd (callE r__law_conjuncts (argV (binN pyIx 0 (cst (.int 1))) argNil)) (callE r__law_conjuncts (argV (binN pyIx 0 (cst (.int 2))) argNil))))
@[simp] theorem e__law_conjuncts_2 (r__law_conjuncts : FM) (ρ : Ev) : q__law_conjuncts_2 r__law_conjuncts ρ = (retM (bin pyAdd (callE r__law_conjuncts (argV (binN pyIx 0 (cst (.int 1))) argNil)) (callE r__law_conjuncts (argV (binN pyIx 0 (cst (.int 2))) argNil)))) ρ := (rfl)
def q__law_conjuncts_1 (r__law_conjuncts : FM) : SM := (ifM (asB (bin pyEq (binN pyIx 0 (cst (.int 0))) (cst (.str "and"))))
  (q__law_conjuncts_2 r__law_conjuncts)
  skipM)
@[simp] theorem e__law_conjuncts_1 (r__law_conjuncts : FM) (ρ : Ev) : q__law_conjuncts_1 r__law_conjuncts ρ = (ifM (asB (bin pyEq (binN pyIx 0 (cst (.int 0))) (cst (.str "and"))))
  (q__law_conjuncts_2 r__law_conjuncts)
  skipM) ρ := (rfl)
def q__law_conjuncts_3 (r__law_conjuncts : FM) : SM := (retO (lstM (argV (getv 0) argNil)))
@[simp] theorem e__law_conjuncts_3 (r__law_conjuncts : FM) (ρ : Ev) : q__law_conjuncts_3 r__law_conjuncts ρ = (retO (lstM (argV (getv 0) argNil))) ρ := (rfl)
def b__law_conjuncts (r__law_conjuncts : FM) : FM := fnB 1 1
  (seqM (q__law_conjuncts_1 r__law_conjuncts)
  (q__law_conjuncts_3 r__law_conjuncts))
mutual
def m__law_conjuncts : Nat → FM
  | 0 => stF
  | n + 1 => b__law_conjuncts (m__law_conjuncts n)
end
theorem em__law_conjuncts (n : Nat) (as : List Slot) : m__law_conjuncts (n + 1) as = if as.length = 1 then fin 1 as ((seqM (q__law_conjuncts_1 (m__law_conjuncts n))
  (q__law_conjuncts_3 (m__law_conjuncts n))) (enter 1 as)) else .stuck := by
  rw [m__law_conjuncts]
  exact ev_fn _ _ _ as
theorem okb__law_conjuncts {P : Program} {w : World} {K : PySem.W.Frag} {mg : Str → Option Value} {base : Heap} {k : Nat} (hk : 0 ≤ k) (r__law_conjuncts : FM) (B : BN K mg) (C__law_conjuncts : FnAt P w K mg base (DW K mg) k "_law_conjuncts" ["_law_form_here"] r__law_conjuncts) (d : DefAt K mg "_law_conjuncts" s__law_conjuncts ["_law_form_here"]) : FnAt P w K mg base (DW K mg) (k + 1) "_law_conjuncts" ["_law_form_here"] (b__law_conjuncts r__law_conjuncts) :=
  fn_at d sc__law_conjuncts rfl (by decide) fun cdv A outer s H E hr tk =>
  (ss_cons (s_if (rb_cmp (nomark _) (op_eqP hr.units) sn_eq (re_ixN (hu1 hr) rfl (pv 0) (rp_of re_int)) (rp_of re_str))
  (ss_one (s_ret (re_bin op_addP sn_add (re_callA C__law_conjuncts (hr.mono (by omega)) tk (ra_v (re_ixN (hu1 hr) rfl (pv 0) (rp_of re_int)) ra_nil)) (rp_of (re_callA C__law_conjuncts (hr.mono (by omega)) tk (ra_v (re_ixN (hu1 hr) rfl (pv 0) (rp_of re_int)) ra_nil))))))
  ss_nil)
  (ss_one (s_retO (rn_lst (ra_v (re_var 0 (pv 0)) ra_nil)))))
theorem oks__law_conjuncts {P : Program} {w : World} {K : PySem.W.Frag} {mg : Str → Option Value} {base : Heap} (B : BN K mg) (d__law_conjuncts : DefAt K mg "_law_conjuncts" s__law_conjuncts ["_law_form_here"]) : ∀ n : Nat, (FnAt P w K mg base (DW K mg) (0 + n) "_law_conjuncts" ["_law_form_here"] (m__law_conjuncts n))
  | 0 => (by rw [m__law_conjuncts]; exact at_stk d__law_conjuncts)
  | n + 1 => by
    have i__law_conjuncts := oks__law_conjuncts (P := P) (w := w) (base := base) B d__law_conjuncts n
    exact (by rw [m__law_conjuncts]; exact okb__law_conjuncts (Nat.le_add_right _ _) _ B i__law_conjuncts d__law_conjuncts)
theorem ok__law_conjuncts {P : Program} {w : World} {K : PySem.W.Frag} {mg : Str → Option Value} {base : Heap} (B : BN K mg) (d__law_conjuncts : DefAt K mg "_law_conjuncts" s__law_conjuncts ["_law_form_here"]) : FnAt P w K mg base (DW K mg) 40 "_law_conjuncts" ["_law_form_here"] (m__law_conjuncts 40) := (oks__law_conjuncts B d__law_conjuncts 40)
abbrev s_conjuncts : Stmt := top 31
abbrev n_conjuncts : List Str := ["test", "part", "one"]
theorem sc_conjuncts : FnScope n_conjuncts ["test"] (defScope s_conjuncts) := ⟨rfl, rfl, rfl, by decide +kernel, rfl, by decide +kernel, by decide +kernel⟩
def q_conjuncts_2 (r_conjuncts : FM) : SM := (retO (lstM (argV (getv 0) argNil)))
@[simp] theorem e_conjuncts_2 (r_conjuncts : FM) (ρ : Ev) : q_conjuncts_2 r_conjuncts ρ = (retO (lstM (argV (getv 0) argNil))) ρ := (rfl)
def q_conjuncts_1 (r_conjuncts : FM) : SM := (ifM (asB (bin pyNe (mthE [(3, m_Test__kind)] "kind" (selfN 0) argNil) (cst (.str "and"))))
  (q_conjuncts_2 r_conjuncts)
  skipM)
@[simp] theorem e_conjuncts_1 (r_conjuncts : FM) (ρ : Ev) : q_conjuncts_1 r_conjuncts ρ = (ifM (asB (bin pyNe (mthE [(3, m_Test__kind)] "kind" (selfN 0) argNil) (cst (.str "and"))))
  (q_conjuncts_2 r_conjuncts)
  skipM) ρ := (rfl)
def q_conjuncts_3 (r_conjuncts : FM) : SM := (retO (cmp2M [1, 2] (itV (mthE [(3, m_Test__parts)] "parts" (selfN 0) argNil)) (tgN 1) (bod2 noT [2] (itV (callE r_conjuncts (argV (getv 1) argNil))) (tgN 2) noT (getv 2))))
@[simp] theorem e_conjuncts_3 (r_conjuncts : FM) (ρ : Ev) : q_conjuncts_3 r_conjuncts ρ = (retO (cmp2M [1, 2] (itV (mthE [(3, m_Test__parts)] "parts" (selfN 0) argNil)) (tgN 1) (bod2 noT [2] (itV (callE r_conjuncts (argV (getv 1) argNil))) (tgN 2) noT (getv 2)))) ρ := (rfl)
def b_conjuncts (r_conjuncts : FM) : FM := fnB 1 3
  (seqM (q_conjuncts_1 r_conjuncts)
  (q_conjuncts_3 r_conjuncts))
mutual
def m_conjuncts : Nat → FM
  | 0 => stF
  | n + 1 => b_conjuncts (m_conjuncts n)
end
theorem em_conjuncts (n : Nat) (as : List Slot) : m_conjuncts (n + 1) as = if as.length = 1 then fin 1 as ((seqM (q_conjuncts_1 (m_conjuncts n))
  (q_conjuncts_3 (m_conjuncts n))) (enter 3 as)) else .stuck := by
  rw [m_conjuncts]
  exact ev_fn _ _ _ as
theorem okb_conjuncts {P : Program} {w : World} {K : PySem.W.Frag} {mg : Str → Option Value} {base : Heap} {k : Nat} (hk : 1 ≤ k) (r_conjuncts : FM) (B : BN K mg) (C_Test__kind : MtAt P w K mg base (DW K mg) 1 "kind" 3 m_Test__kind) (C_Test__parts : MtAt P w K mg base (DW K mg) 1 "parts" 3 m_Test__parts) (C_conjuncts : FnAt P w K mg base (DW K mg) k "conjuncts" ["test"] r_conjuncts) (d : DefAt K mg "conjuncts" s_conjuncts ["test"]) : FnAt P w K mg base (DW K mg) (k + 1) "conjuncts" ["test"] (b_conjuncts r_conjuncts) :=
  fn_at d sc_conjuncts rfl (by decide) fun cdv A outer s H E hr tk =>
  (ss_cons (s_if (rb_cmp (nomark _) (op_neP hr.units) sn_ne (re_mth0 (tbl_cons (C_Test__kind.mono (by omega)) tbl_nil) hr tk (rs_n 0 (pv 0))) (rp_of re_str))
  (ss_one (s_retO (rn_lst (ra_v (re_var 0 (pv 0)) ra_nil))))
  ss_nil)
  (ss_one (s_retO (rn_lc2 (own := [("part", 1), ("one", 2)]) (tg := (tgN 1)) (hc := rfl) (hN := sc_conjuncts.nd) (ok := blkOk_by (N := n_conjuncts) (sc := defScope s_conjuncts) (by decide +kernel)) (hi := (ri_v rfl (re_mth0 (tbl_cons (C_Test__parts.mono (by omega)) tbl_nil) hr tk (rs_n 0 (pv 0))))) (hg := fun _ _ _ _ _ => (pg_name (i := 1) sc_conjuncts.nd rfl (by first | exact Or.inl rfl | exact Or.inr rfl))) (ht := fun _ _ _ _ _ => pts_no) (he := fun _ _ _ _ _ => (re_var 2 (pv 2))) (vs1 := [2]) (tg1 := (tgN 2)) (hv := by decide) (tk := (tgx_name (by decide))) (tk1 := (tgx_name (by decide))) (hi1 := fun _ _ _ _ _ => (ri_v rfl (re_callA C_conjuncts (hr.mono (by omega)) takes0 (ra_v (re_var 1 (pv 1)) ra_nil)))) (hg1 := fun _ _ _ _ _ => (pg_name (i := 2) sc_conjuncts.nd rfl (by first | exact Or.inl rfl | exact Or.inr rfl))) (ht1 := fun _ _ _ _ _ => pts_no)))))
theorem oks_conjuncts {P : Program} {w : World} {K : PySem.W.Frag} {mg : Str → Option Value} {base : Heap} (B : BN K mg) (C_Test__kind : MtAt P w K mg base (DW K mg) 1 "kind" 3 m_Test__kind) (C_Test__parts : MtAt P w K mg base (DW K mg) 1 "parts" 3 m_Test__parts) (d_conjuncts : DefAt K mg "conjuncts" s_conjuncts ["test"]) : ∀ n : Nat, (FnAt P w K mg base (DW K mg) (1 + n) "conjuncts" ["test"] (m_conjuncts n))
  | 0 => (by rw [m_conjuncts]; exact at_stk d_conjuncts)
  | n + 1 => by
    have i_conjuncts := oks_conjuncts (P := P) (w := w) (base := base) B C_Test__kind C_Test__parts d_conjuncts n
    exact (by rw [m_conjuncts]; exact okb_conjuncts (Nat.le_add_right _ _) _ B C_Test__kind C_Test__parts i_conjuncts d_conjuncts)
theorem ok_conjuncts {P : Program} {w : World} {K : PySem.W.Frag} {mg : Str → Option Value} {base : Heap} (B : BN K mg) (C_Test__kind : MtAt P w K mg base (DW K mg) 1 "kind" 3 m_Test__kind) (C_Test__parts : MtAt P w K mg base (DW K mg) 1 "parts" 3 m_Test__parts) (d_conjuncts : DefAt K mg "conjuncts" s_conjuncts ["test"]) : FnAt P w K mg base (DW K mg) 41 "conjuncts" ["test"] (m_conjuncts 40) := (oks_conjuncts B C_Test__kind C_Test__parts d_conjuncts 40)
abbrev s__law_is_integer : Stmt := top 40
abbrev n__law_is_integer : List Str := ["_law_thing"]
theorem sc__law_is_integer : FnScope n__law_is_integer ["_law_thing"] (defScope s__law_is_integer) := ⟨rfl, rfl, rfl, by decide +kernel, rfl, by decide +kernel, by decide +kernel⟩
def q__law_is_integer_1  : SM := (retM (andV' (isM (peek 0) .int) (un pyNot (isM (peek 0) .bool))))
@[simp] theorem e__law_is_integer_1  (ρ : Ev) : q__law_is_integer_1  ρ = (retM (andV' (isM (peek 0) .int) (un pyNot (isM (peek 0) .bool)))) ρ := (rfl)
def m__law_is_integer : FM := fnB 1 1
  q__law_is_integer_1
theorem em__law_is_integer (as : List Slot) : m__law_is_integer as = if as.length = 1 then fin 1 as (q__law_is_integer_1 (enter 1 as)) else .stuck := ev_fn _ _ _ as
theorem ok__law_is_integer {P : Program} {w : World} {K : PySem.W.Frag} {mg : Str → Option Value} {base : Heap} (B : BN K mg) (d : DefAt K mg "_law_is_integer" s__law_is_integer ["_law_thing"]) : FnAt P w K mg base (DW K mg) 1 "_law_is_integer" ["_law_thing"] m__law_is_integer :=
  fn_at d sc__law_is_integer rfl (by decide) fun cdv A outer s H E hr tk =>
  (ss_one (s_ret (re_and (re_isi B.hT .int rfl (rp_var 0 (pv 0)) rfl B.b_isinstance rfl B.b_int PyProof.Rows.boot_int) (re_one (re_notV (re_isi B.hT .bool rfl (rp_var 0 (pv 0)) rfl B.b_isinstance rfl B.b_bool PyProof.Rows.boot_bool) rfl)) rfl)))
abbrev s__law_levels : Stmt := top 54
abbrev n__law_levels : List Str := ["_law_form_here", "_law_one", "_law_other"]
theorem sc__law_levels : FnScope n__law_levels ["_law_form_here"] (defScope s__law_levels) := ⟨rfl, rfl, rfl, by decide +kernel, rfl, by decide +kernel, by decide +kernel⟩
def q__law_levels_2 (r__law_levels : FM) : SM := (setM 1 (callE r__law_levels (argV (binN pyIx 0 (cst (.int 1))) argNil)))
@[simp] theorem e__law_levels_2 (r__law_levels : FM) (ρ : Ev) : q__law_levels_2 r__law_levels ρ = (setM 1 (callE r__law_levels (argV (binN pyIx 0 (cst (.int 1))) argNil))) ρ := (rfl)
def q__law_levels_3 (r__law_levels : FM) : SM := (setM 2 (callE r__law_levels (argV (binN pyIx 0 (cst (.int 2))) argNil)))
@[simp] theorem e__law_levels_3 (r__law_levels : FM) (ρ : Ev) : q__law_levels_3 r__law_levels ρ = (setM 2 (callE r__law_levels (argV (binN pyIx 0 (cst (.int 2))) argNil))) ρ := (rfl)
def q__law_levels_5 (r__law_levels : FM) : SM := (retM (bin pyAdd (cst (.int 1)) (peek 1)))
@[simp] theorem e__law_levels_5 (r__law_levels : FM) (ρ : Ev) : q__law_levels_5 r__law_levels ρ = (retM (bin pyAdd (cst (.int 1)) (peek 1))) ρ := (rfl)
def q__law_levels_4 (r__law_levels : FM) : SM := (ifM (asB (binN pyGt 1 (peek 2)))
  (q__law_levels_5 r__law_levels)
  skipM)
@[simp] theorem e__law_levels_4 (r__law_levels : FM) (ρ : Ev) : q__law_levels_4 r__law_levels ρ = (ifM (asB (binN pyGt 1 (peek 2)))
  (q__law_levels_5 r__law_levels)
  skipM) ρ := (rfl)
def q__law_levels_6 (r__law_levels : FM) : SM := (retM (bin pyAdd (cst (.int 1)) (peek 2)))
@[simp] theorem e__law_levels_6 (r__law_levels : FM) (ρ : Ev) : q__law_levels_6 r__law_levels ρ = (retM (bin pyAdd (cst (.int 1)) (peek 2))) ρ := (rfl)
def q__law_levels_1 (r__law_levels : FM) : SM := (ifM (orM (asB (bin pyEq (binN pyIx 0 (cst (.int 0))) (cst (.str "and")))) (asB (bin pyEq (binN pyIx 0 (cst (.int 0))) (cst (.str "or")))))
  (seqM (q__law_levels_2 r__law_levels)
  (seqM (q__law_levels_3 r__law_levels)
  (seqM (q__law_levels_4 r__law_levels)
  (q__law_levels_6 r__law_levels))))
  skipM)
@[simp] theorem e__law_levels_1 (r__law_levels : FM) (ρ : Ev) : q__law_levels_1 r__law_levels ρ = (ifM (orM (asB (bin pyEq (binN pyIx 0 (cst (.int 0))) (cst (.str "and")))) (asB (bin pyEq (binN pyIx 0 (cst (.int 0))) (cst (.str "or")))))
  (seqM (q__law_levels_2 r__law_levels)
  (seqM (q__law_levels_3 r__law_levels)
  (seqM (q__law_levels_4 r__law_levels)
  (q__law_levels_6 r__law_levels))))
  skipM) ρ := (rfl)
def q__law_levels_8 (r__law_levels : FM) : SM := (retM (bin pyAdd (cst (.int 1)) (callE r__law_levels (argV (binN pyIx 0 (cst (.int 1))) argNil))))
@[simp] theorem e__law_levels_8 (r__law_levels : FM) (ρ : Ev) : q__law_levels_8 r__law_levels ρ = (retM (bin pyAdd (cst (.int 1)) (callE r__law_levels (argV (binN pyIx 0 (cst (.int 1))) argNil)))) ρ := (rfl)
def q__law_levels_7 (r__law_levels : FM) : SM := (ifM (orM (asB (bin pyEq (binN pyIx 0 (cst (.int 0))) (cst (.str "not")))) (asB (bin pyEq (binN pyIx 0 (cst (.int 0))) (cst (.str "sure")))))
  (q__law_levels_8 r__law_levels)
  skipM)
@[simp] theorem e__law_levels_7 (r__law_levels : FM) (ρ : Ev) : q__law_levels_7 r__law_levels ρ = (ifM (orM (asB (bin pyEq (binN pyIx 0 (cst (.int 0))) (cst (.str "not")))) (asB (bin pyEq (binN pyIx 0 (cst (.int 0))) (cst (.str "sure")))))
  (q__law_levels_8 r__law_levels)
  skipM) ρ := (rfl)
def q__law_levels_9 (r__law_levels : FM) : SM := (retM (cst (.int 0)))
@[simp] theorem e__law_levels_9 (r__law_levels : FM) (ρ : Ev) : q__law_levels_9 r__law_levels ρ = (retM (cst (.int 0))) ρ := (rfl)
def b__law_levels (r__law_levels : FM) : FM := fnB 1 3
  (seqM (q__law_levels_1 r__law_levels)
  (seqM (q__law_levels_7 r__law_levels)
  (q__law_levels_9 r__law_levels)))
mutual
def m__law_levels : Nat → FM
  | 0 => stF
  | n + 1 => b__law_levels (m__law_levels n)
end
theorem em__law_levels (n : Nat) (as : List Slot) : m__law_levels (n + 1) as = if as.length = 1 then fin 1 as ((seqM (q__law_levels_1 (m__law_levels n))
  (seqM (q__law_levels_7 (m__law_levels n))
  (q__law_levels_9 (m__law_levels n)))) (enter 3 as)) else .stuck := by
  rw [m__law_levels]
  exact ev_fn _ _ _ as
theorem okb__law_levels {P : Program} {w : World} {K : PySem.W.Frag} {mg : Str → Option Value} {base : Heap} {k : Nat} (hk : 0 ≤ k) (r__law_levels : FM) (B : BN K mg) (C__law_levels : FnAt P w K mg base (DW K mg) k "_law_levels" ["_law_form_here"] r__law_levels) (d : DefAt K mg "_law_levels" s__law_levels ["_law_form_here"]) : FnAt P w K mg base (DW K mg) (k + 1) "_law_levels" ["_law_form_here"] (b__law_levels r__law_levels) :=
  fn_at d sc__law_levels rfl (by decide) fun cdv A outer s H E hr tk =>
  (ss_cons (s_if (rb_w (rw_or (rb_cmp (nomark _) (op_eqP hr.units) sn_eq (re_ixN (hu1 hr) rfl (pv 0) (rp_of re_int)) (rp_of re_str)) (rw_or1 (rb_cmp (nomark _) (op_eqP hr.units) sn_eq (re_ixN (hu1 hr) rfl (pv 0) (rp_of re_int)) (rp_of re_str)))))
  (ss_cons (s_set (i := 1) sc__law_levels.nd rfl (by first | exact Or.inl rfl | exact Or.inr rfl) (re_callA C__law_levels (hr.mono (by omega)) tk (ra_v (re_ixN (hu1 hr) rfl (pv 0) (rp_of re_int)) ra_nil)))
  (ss_cons (s_set (i := 2) sc__law_levels.nd rfl (by first | exact Or.inl rfl | exact Or.inr rfl) (re_callA C__law_levels (hr.mono (by omega)) tk (ra_v (re_ixN (hu1 hr) rfl (pv 0) (rp_of re_int)) ra_nil)))
  (ss_cons (s_if (rb_cmpN (nomark _) op_gtP sn_gt (pv 1) (rp_var 2 (pv 2)))
  (ss_one (s_ret (re_bin op_addP sn_add re_int (rp_var 1 (pv 1)))))
  ss_nil)
  (ss_one (s_ret (re_bin op_addP sn_add re_int (rp_var 2 (pv 2))))))))
  ss_nil)
  (ss_cons (s_if (rb_w (rw_or (rb_cmp (nomark _) (op_eqP hr.units) sn_eq (re_ixN (hu1 hr) rfl (pv 0) (rp_of re_int)) (rp_of re_str)) (rw_or1 (rb_cmp (nomark _) (op_eqP hr.units) sn_eq (re_ixN (hu1 hr) rfl (pv 0) (rp_of re_int)) (rp_of re_str)))))
  (ss_one (s_ret (re_bin op_addP sn_add re_int (rp_of (re_callA C__law_levels (hr.mono (by omega)) tk (ra_v (re_ixN (hu1 hr) rfl (pv 0) (rp_of re_int)) ra_nil))))))
  ss_nil)
  (ss_one (s_ret re_int))))
theorem oks__law_levels {P : Program} {w : World} {K : PySem.W.Frag} {mg : Str → Option Value} {base : Heap} (B : BN K mg) (d__law_levels : DefAt K mg "_law_levels" s__law_levels ["_law_form_here"]) : ∀ n : Nat, (FnAt P w K mg base (DW K mg) (0 + n) "_law_levels" ["_law_form_here"] (m__law_levels n))
  | 0 => (by rw [m__law_levels]; exact at_stk d__law_levels)
  | n + 1 => by
    have i__law_levels := oks__law_levels (P := P) (w := w) (base := base) B d__law_levels n
    exact (by rw [m__law_levels]; exact okb__law_levels (Nat.le_add_right _ _) _ B i__law_levels d__law_levels)
theorem ok__law_levels {P : Program} {w : World} {K : PySem.W.Frag} {mg : Str → Option Value} {base : Heap} (B : BN K mg) (d__law_levels : DefAt K mg "_law_levels" s__law_levels ["_law_form_here"]) : FnAt P w K mg base (DW K mg) 40 "_law_levels" ["_law_form_here"] (m__law_levels 40) := (oks__law_levels B d__law_levels 40)
abbrev s_columns_of : Stmt := top 32
abbrev n_columns_of : List Str := ["atom", "data"]
theorem sc_columns_of : FnScope n_columns_of ["atom"] (defScope s_columns_of) := ⟨rfl, rfl, rfl, by decide +kernel, rfl, by decide +kernel, by decide +kernel⟩
def q_columns_of_1  : SM := (setM 1 (mthE [(3, m_Test__data)] "data" (selfN 0) argNil))
@[simp] theorem e_columns_of_1  (ρ : Ev) : q_columns_of_1  ρ = (setM 1 (mthE [(3, m_Test__data)] "data" (selfN 0) argNil)) ρ := (rfl)
def q_columns_of_3  : SM := (retO (lstM (argV (binN pyIx 1 (cst (.int 0))) (argV (binN pyIx 1 (cst (.int 2))) argNil))))
@[simp] theorem e_columns_of_3  (ρ : Ev) : q_columns_of_3  ρ = (retO (lstM (argV (binN pyIx 1 (cst (.int 0))) (argV (binN pyIx 1 (cst (.int 2))) argNil)))) ρ := (rfl)
def q_columns_of_2  : SM := (ifM (asB (bin pyEq (mthE [(3, m_Test__kind)] "kind" (selfN 0) argNil) (cst (.str "against"))))
  q_columns_of_3
  skipM)
@[simp] theorem e_columns_of_2  (ρ : Ev) : q_columns_of_2  ρ = (ifM (asB (bin pyEq (mthE [(3, m_Test__kind)] "kind" (selfN 0) argNil) (cst (.str "against"))))
  q_columns_of_3
  skipM) ρ := (rfl)
def q_columns_of_4  : SM := (retM (iteM (truM (peek 1)) (frz (lstM (argV (binN pyIx 1 (cst (.int 0))) argNil))) (frz (lstM argNil))))
@[simp] theorem e_columns_of_4  (ρ : Ev) : q_columns_of_4  ρ = (retM (iteM (truM (peek 1)) (frz (lstM (argV (binN pyIx 1 (cst (.int 0))) argNil))) (frz (lstM argNil)))) ρ := (rfl)
def m_columns_of : FM := fnB 1 2
  (seqM q_columns_of_1
  (seqM q_columns_of_2
  q_columns_of_4))
theorem em_columns_of (as : List Slot) : m_columns_of as = if as.length = 1 then fin 1 as ((seqM q_columns_of_1
  (seqM q_columns_of_2
  q_columns_of_4)) (enter 2 as)) else .stuck := ev_fn _ _ _ as
theorem ok_columns_of {P : Program} {w : World} {K : PySem.W.Frag} {mg : Str → Option Value} {base : Heap} (B : BN K mg) (C_Test__data : MtAt P w K mg base (DW K mg) 1 "data" 3 m_Test__data) (C_Test__kind : MtAt P w K mg base (DW K mg) 1 "kind" 3 m_Test__kind) (d : DefAt K mg "columns_of" s_columns_of ["atom"]) : FnAt P w K mg base (DW K mg) 2 "columns_of" ["atom"] m_columns_of :=
  fn_at d sc_columns_of rfl (by decide) fun cdv A outer s H E hr tk =>
  (ss_cons (s_set (i := 1) sc_columns_of.nd rfl (by first | exact Or.inl rfl | exact Or.inr rfl) (re_mth0 (tbl_cons (C_Test__data.mono (by omega)) tbl_nil) hr tk (rs_n 0 (pv 0))))
  (ss_cons (s_if (rb_cmp (nomark _) (op_eqP hr.units) sn_eq (re_mth0 (tbl_cons (C_Test__kind.mono (by omega)) tbl_nil) hr tk (rs_n 0 (pv 0))) (rp_of re_str))
  (ss_one (s_retO (rn_lst (ra_v (re_ixN (hu1 hr) rfl (pv 1) (rp_of re_int)) (ra_v (re_ixN (hu1 hr) rfl (pv 1) (rp_of re_int)) ra_nil)))))
  ss_nil)
  (ss_one (s_ret (re_if (rb_truth (rp_var 1 (pv 1)) rfl) (re_frz (rn_lst (ra_v (re_ixN (hu1 hr) rfl (pv 1) (rp_of re_int)) ra_nil))) (re_frz (rn_lst ra_nil)))))))
abbrev s_sorted_plain : Stmt := top 14
abbrev n_sorted_plain : List Str := ["items", "result", "item", "at"]
theorem sc_sorted_plain : FnScope n_sorted_plain ["items"] (defScope s_sorted_plain) := ⟨rfl, rfl, rfl, by decide +kernel, rfl, by decide +kernel, by decide +kernel⟩
def q_sorted_plain_1  : SM := (setO 1 (lstM argNil))
@[simp] theorem e_sorted_plain_1  (ρ : Ev) : q_sorted_plain_1  ρ = (setO 1 (lstM argNil)) ρ := (rfl)
def q_sorted_plain_3  : SM := (setM 3 (callB bLen (argN 1 argNil)))
@[simp] theorem e_sorted_plain_3  (ρ : Ev) : q_sorted_plain_3  ρ = (setM 3 (callB bLen (argN 1 argNil))) ρ := (rfl)
def q_sorted_plain_5  : SM := (setAug 3 (fun i j => i - j) (cst (.int 1)))
@[simp] theorem e_sorted_plain_5  (ρ : Ev) : q_sorted_plain_5  ρ = (setAug 3 (fun i j => i - j) (cst (.int 1))) ρ := (rfl)
def q_sorted_plain_4  : SM := (whM (andM (asB (binN pyGt 3 (cst (.int 0)))) (asB (binN pyLt 2 (binN pyIx 1 (binN pySub 3 (cst (.int 1)))))))
  q_sorted_plain_5)
@[simp] theorem e_sorted_plain_4  (ρ : Ev) : q_sorted_plain_4  ρ = (whM (andM (asB (binN pyGt 3 (cst (.int 0)))) (asB (binN pyLt 2 (binN pyIx 1 (binN pySub 3 (cst (.int 1)))))))
  q_sorted_plain_5) ρ := (rfl)
def q_sorted_plain_6  : SM := (exprM (methM lInsert 1 (argV (getv 3) (argV (getv 2) argNil))))
@[simp] theorem e_sorted_plain_6  (ρ : Ev) : q_sorted_plain_6  ρ = (exprM (methM lInsert 1 (argV (getv 3) (argV (getv 2) argNil)))) ρ := (rfl)
def q_sorted_plain_2  : SM := (frM (itV (getv 0)) (tgN 2)
  (seqM q_sorted_plain_3
  (seqM q_sorted_plain_4
  q_sorted_plain_6)))
@[simp] theorem e_sorted_plain_2  (ρ : Ev) : q_sorted_plain_2  ρ = (frM (itV (getv 0)) (tgN 2)
  (seqM q_sorted_plain_3
  (seqM q_sorted_plain_4
  q_sorted_plain_6))) ρ := (rfl)
def q_sorted_plain_7  : SM := (retV 1)
@[simp] theorem e_sorted_plain_7  (ρ : Ev) : q_sorted_plain_7  ρ = (retV 1) ρ := (rfl)
def m_sorted_plain : FM := fnB 1 4
  (seqM q_sorted_plain_1
  (seqM q_sorted_plain_2
  q_sorted_plain_7))
theorem em_sorted_plain (as : List Slot) : m_sorted_plain as = if as.length = 1 then fin 1 as ((seqM q_sorted_plain_1
  (seqM q_sorted_plain_2
  q_sorted_plain_7)) (enter 4 as)) else .stuck := ev_fn _ _ _ as
theorem ok_sorted_plain {P : Program} {w : World} {K : PySem.W.Frag} {mg : Str → Option Value} {base : Heap} (B : BN K mg) (d : DefAt K mg "sorted_plain" s_sorted_plain ["items"]) : FnAt P w K mg base (DW K mg) 1 "sorted_plain" ["items"] m_sorted_plain :=
  fn_at d sc_sorted_plain rfl (by decide) fun cdv A outer s H E hr tk =>
  (ss_cons (s_setO (i := 1) sc_sorted_plain.nd rfl (by first | exact Or.inl rfl | exact Or.inr rfl) (rn_lst ra_nil))
  (ss_cons (s_fr (passes_of rfl) rfl (ri_v rfl (re_var 0 (pv 0))) (pg_name (i := 2) sc_sorted_plain.nd rfl (by first | exact Or.inl rfl | exact Or.inr rfl)) (vs := [2]) (tgx_name (by decide))
  (ss_cons (s_set (i := 3) sc_sorted_plain.nd rfl (by first | exact Or.inl rfl | exact Or.inr rfl) (re_len rfl (hg := rfl) (hm := B.b_len) (ha := (ra_n 1 (pv 1) ra_nil))))
  (ss_cons (s_while (passes_of rfl) (rb_w (rw_and (rb_cmpN (nomark _) op_gtP sn_gt (pv 3) (rp_of re_int)) (rw_and1 (rb_cmpN (nomark _) op_ltP sn_lt (pv 2) (rp_of (re_ixN (hu1 hr) rfl (pv 1) (rp_of (re_binN op_subP sn_sub (pv 3) (rp_of re_int)))))))))
  (ss_one (s_aug (i := 3) ip_sub sc_sorted_plain.nd rfl (by first | exact Or.inl rfl | exact Or.inr rfl) re_int)))
  (ss_one (s_expr (re_lm PySem.F.slot_list_insert PySem.F.type_list_insert mt_insert sn_insert rfl (pv 1) (ra_v (re_var 3 (pv 3)) (ra_v (re_var 2 (pv 2)) ra_nil))))))))
  (ss_one (s_retV 1 (pv 1)))))
abbrev s_Test__names : Stmt := inCls (top 19) 6
abbrev n_Test__names : List Str := ["self", "found", "atom", "name"]
theorem sc_Test__names : FnScope n_Test__names ["self"] (defScope s_Test__names) := ⟨rfl, rfl, rfl, by decide +kernel, rfl, by decide +kernel, by decide +kernel⟩
def q_Test__names_1  : SM := (setO 1 (lstM argNil))
@[simp] theorem e_Test__names_1  (ρ : Ev) : q_Test__names_1  ρ = (setO 1 (lstM argNil)) ρ := (rfl)
def q_Test__names_5  : SM := (exprM (methM lAppend 1 (argV (getv 3) argNil)))
@[simp] theorem e_Test__names_5  (ρ : Ev) : q_Test__names_5  ρ = (exprM (methM lAppend 1 (argV (getv 3) argNil))) ρ := (rfl)
def q_Test__names_4  : SM := (ifM (asB (binN pyNotIn 3 (peek 1)))
  q_Test__names_5
  skipM)
@[simp] theorem e_Test__names_4  (ρ : Ev) : q_Test__names_4  ρ = (ifM (asB (binN pyNotIn 3 (peek 1)))
  q_Test__names_5
  skipM) ρ := (rfl)
def q_Test__names_3  : SM := (frM (itV (callE m_columns_of (argV (getv 2) argNil))) (tgN 3)
  q_Test__names_4)
@[simp] theorem e_Test__names_3  (ρ : Ev) : q_Test__names_3  ρ = (frM (itV (callE m_columns_of (argV (getv 2) argNil))) (tgN 3)
  q_Test__names_4) ρ := (rfl)
def q_Test__names_2  : SM := (frM (itV (mthE [(3, (m_Test__atoms 40))] "atoms" (selfN 0) argNil)) (tgN 2)
  q_Test__names_3)
@[simp] theorem e_Test__names_2  (ρ : Ev) : q_Test__names_2  ρ = (frM (itV (mthE [(3, (m_Test__atoms 40))] "atoms" (selfN 0) argNil)) (tgN 2)
  q_Test__names_3) ρ := (rfl)
def q_Test__names_6  : SM := (retO (callO m_sorted_plain (argV (getv 1) argNil)))
@[simp] theorem e_Test__names_6  (ρ : Ev) : q_Test__names_6  ρ = (retO (callO m_sorted_plain (argV (getv 1) argNil))) ρ := (rfl)
def m_Test__names : FM := fnB 1 4
  (seqM q_Test__names_1
  (seqM q_Test__names_2
  q_Test__names_6))
theorem em_Test__names (as : List Slot) : m_Test__names as = if as.length = 1 then fin 1 as ((seqM q_Test__names_1
  (seqM q_Test__names_2
  q_Test__names_6)) (enter 4 as)) else .stuck := ev_fn _ _ _ as
theorem ok_Test__names {P : Program} {w : World} {K : PySem.W.Frag} {mg : Str → Option Value} {base : Heap} (B : BN K mg) (C_Test__atoms : MtAt P w K mg base (DW K mg) 40 "atoms" 3 (m_Test__atoms 40)) (C_columns_of : FnAt P w K mg base (DW K mg) 2 "columns_of" ["atom"] m_columns_of) (C_sorted_plain : FnAt P w K mg base (DW K mg) 1 "sorted_plain" ["items"] m_sorted_plain) (d : DefMt K (DW K mg) 3 "names" "Test.names" s_Test__names ["self"]) : MtAt P w K mg base (DW K mg) 41 "names" 3 m_Test__names :=
  mt_at d sc_Test__names rfl (by decide) fun cdv A outer s H E hr tk =>
  (ss_cons (s_setO (i := 1) sc_Test__names.nd rfl (by first | exact Or.inl rfl | exact Or.inr rfl) (rn_lst ra_nil))
  (ss_cons (s_fr (passes_of rfl) rfl (ri_v rfl (re_mth0 (tbl_cons (C_Test__atoms.mono (by omega)) tbl_nil) hr tk (rs_n 0 (pv 0)))) (pg_name (i := 2) sc_Test__names.nd rfl (by first | exact Or.inl rfl | exact Or.inr rfl)) (vs := [2]) (tgx_name (by decide))
  (ss_one (s_fr (passes_of rfl) rfl (ri_v rfl (re_callA C_columns_of (hr.mono (by omega)) tk (ra_v (re_var 2 (pv 2)) ra_nil))) (pg_name (i := 3) sc_Test__names.nd rfl (by first | exact Or.inl rfl | exact Or.inr rfl)) (vs := [3]) (tgx_name (by decide))
  (ss_one (s_if (rb_cmpN rfl (op_notInP (hu65 hr)) sn_notIn (pv 3) (rp_var 1 (pv 1)))
  (ss_one (s_expr (re_lm PySem.F.slot_list_append PySem.F.type_list_append mt_append sn_append rfl (pv 1) (ra_v (re_var 3 (pv 3)) ra_nil))))
  ss_nil)))))
  (ss_one (s_retO (rn_callA C_sorted_plain (hr.mono (by omega)) tk (ra_v (re_var 1 (pv 1)) ra_nil))))))
abbrev s__law_atom_names : Stmt := top 52
abbrev n__law_atom_names : List Str := ["_law_atom_here"]
theorem sc__law_atom_names : FnScope n__law_atom_names ["_law_atom_here"] (defScope s__law_atom_names) := ⟨rfl, rfl, rfl, by decide +kernel, rfl, by decide +kernel, by decide +kernel⟩
def q__law_atom_names_2  : SM := (retO (lstM argNil))
@[simp] theorem e__law_atom_names_2  (ρ : Ev) : q__law_atom_names_2  ρ = (retO (lstM argNil)) ρ := (rfl)
def q__law_atom_names_1  : SM := (ifM (asB (bin pyEq (callB bLen (argN 0 argNil)) (cst (.int 1))))
  q__law_atom_names_2
  skipM)
@[simp] theorem e__law_atom_names_1  (ρ : Ev) : q__law_atom_names_1  ρ = (ifM (asB (bin pyEq (callB bLen (argN 0 argNil)) (cst (.int 1))))
  q__law_atom_names_2
  skipM) ρ := (rfl)
def q__law_atom_names_4  : SM := (retO (lstM (argV (binN pyIx 0 (cst (.int 1))) (argV (binN pyIx 0 (cst (.int 3))) argNil))))
@[simp] theorem e__law_atom_names_4  (ρ : Ev) : q__law_atom_names_4  ρ = (retO (lstM (argV (binN pyIx 0 (cst (.int 1))) (argV (binN pyIx 0 (cst (.int 3))) argNil)))) ρ := (rfl)
def q__law_atom_names_3  : SM := (ifM (asB (bin pyEq (binN pyIx 0 (cst (.int 0))) (cst (.str "against"))))
  q__law_atom_names_4
  skipM)
@[simp] theorem e__law_atom_names_3  (ρ : Ev) : q__law_atom_names_3  ρ = (ifM (asB (bin pyEq (binN pyIx 0 (cst (.int 0))) (cst (.str "against"))))
  q__law_atom_names_4
  skipM) ρ := (rfl)
def q__law_atom_names_5  : SM := (retO (lstM (argV (binN pyIx 0 (cst (.int 1))) argNil)))
@[simp] theorem e__law_atom_names_5  (ρ : Ev) : q__law_atom_names_5  ρ = (retO (lstM (argV (binN pyIx 0 (cst (.int 1))) argNil))) ρ := (rfl)
def m__law_atom_names : FM := fnB 1 1
  (seqM q__law_atom_names_1
  (seqM q__law_atom_names_3
  q__law_atom_names_5))
theorem em__law_atom_names (as : List Slot) : m__law_atom_names as = if as.length = 1 then fin 1 as ((seqM q__law_atom_names_1
  (seqM q__law_atom_names_3
  q__law_atom_names_5)) (enter 1 as)) else .stuck := ev_fn _ _ _ as
theorem ok__law_atom_names {P : Program} {w : World} {K : PySem.W.Frag} {mg : Str → Option Value} {base : Heap} (B : BN K mg) (d : DefAt K mg "_law_atom_names" s__law_atom_names ["_law_atom_here"]) : FnAt P w K mg base (DW K mg) 1 "_law_atom_names" ["_law_atom_here"] m__law_atom_names :=
  fn_at d sc__law_atom_names rfl (by decide) fun cdv A outer s H E hr tk =>
  (ss_cons (s_if (rb_cmp (nomark _) (op_eqP hr.units) sn_eq (re_len rfl (hg := rfl) (hm := B.b_len) (ha := (ra_n 0 (pv 0) ra_nil))) (rp_of re_int))
  (ss_one (s_retO (rn_lst ra_nil)))
  ss_nil)
  (ss_cons (s_if (rb_cmp (nomark _) (op_eqP hr.units) sn_eq (re_ixN (hu1 hr) rfl (pv 0) (rp_of re_int)) (rp_of re_str))
  (ss_one (s_retO (rn_lst (ra_v (re_ixN (hu1 hr) rfl (pv 0) (rp_of re_int)) (ra_v (re_ixN (hu1 hr) rfl (pv 0) (rp_of re_int)) ra_nil)))))
  ss_nil)
  (ss_one (s_retO (rn_lst (ra_v (re_ixN (hu1 hr) rfl (pv 0) (rp_of re_int)) ra_nil))))))
abbrev s__law_names : Stmt := top 53
abbrev n__law_names : List Str := ["_law_form_here", "_law_names_here", "_law_atom_here", "_law_name_here"]
theorem sc__law_names : FnScope n__law_names ["_law_form_here"] (defScope s__law_names) := ⟨rfl, rfl, rfl, by decide +kernel, rfl, by decide +kernel, by decide +kernel⟩
def q__law_names_1  : SM := (setO 1 (lstM argNil))
@[simp] theorem e__law_names_1  (ρ : Ev) : q__law_names_1  ρ = (setO 1 (lstM argNil)) ρ := (rfl)
def q__law_names_5  : SM := (exprM (methM lAppend 1 (argV (getv 3) argNil)))
@[simp] theorem e__law_names_5  (ρ : Ev) : q__law_names_5  ρ = (exprM (methM lAppend 1 (argV (getv 3) argNil))) ρ := (rfl)
def q__law_names_4  : SM := (ifM (asB (binN pyNotIn 3 (peek 1)))
  q__law_names_5
  skipM)
@[simp] theorem e__law_names_4  (ρ : Ev) : q__law_names_4  ρ = (ifM (asB (binN pyNotIn 3 (peek 1)))
  q__law_names_5
  skipM) ρ := (rfl)
def q__law_names_3  : SM := (frM (itV (callE m__law_atom_names (argV (getv 2) argNil))) (tgN 3)
  q__law_names_4)
@[simp] theorem e__law_names_3  (ρ : Ev) : q__law_names_3  ρ = (frM (itV (callE m__law_atom_names (argV (getv 2) argNil))) (tgN 3)
  q__law_names_4) ρ := (rfl)
def q__law_names_2  : SM := (frM (itV (callE (m__law_atoms 40) (argV (getv 0) argNil))) (tgN 2)
  q__law_names_3)
@[simp] theorem e__law_names_2  (ρ : Ev) : q__law_names_2  ρ = (frM (itV (callE (m__law_atoms 40) (argV (getv 0) argNil))) (tgN 2)
  q__law_names_3) ρ := (rfl)
def q__law_names_6  : SM := (retM (callB bSorted (argV (frz (cmpM [3] (itV (getv 1)) (tgN 3) noT (callB bStr (argN 3 argNil)))) argNil)))
@[simp] theorem e__law_names_6  (ρ : Ev) : q__law_names_6  ρ = (retM (callB bSorted (argV (frz (cmpM [3] (itV (getv 1)) (tgN 3) noT (callB bStr (argN 3 argNil)))) argNil))) ρ := (rfl)
def m__law_names : FM := fnB 1 4
  (seqM q__law_names_1
  (seqM q__law_names_2
  q__law_names_6))
theorem em__law_names (as : List Slot) : m__law_names as = if as.length = 1 then fin 1 as ((seqM q__law_names_1
  (seqM q__law_names_2
  q__law_names_6)) (enter 4 as)) else .stuck := ev_fn _ _ _ as
theorem ok__law_names {P : Program} {w : World} {K : PySem.W.Frag} {mg : Str → Option Value} {base : Heap} (B : BN K mg) (C__law_atoms : FnAt P w K mg base (DW K mg) 40 "_law_atoms" ["_law_form_here"] (m__law_atoms 40)) (C__law_atom_names : FnAt P w K mg base (DW K mg) 1 "_law_atom_names" ["_law_atom_here"] m__law_atom_names) (d : DefAt K mg "_law_names" s__law_names ["_law_form_here"]) : FnAt P w K mg base (DW K mg) 41 "_law_names" ["_law_form_here"] m__law_names :=
  fn_at d sc__law_names rfl (by decide) fun cdv A outer s H E hr tk =>
  (ss_cons (s_setO (i := 1) sc__law_names.nd rfl (by first | exact Or.inl rfl | exact Or.inr rfl) (rn_lst ra_nil))
  (ss_cons (s_fr (passes_of rfl) rfl (ri_v rfl (re_callA C__law_atoms (hr.mono (by omega)) tk (ra_v (re_var 0 (pv 0)) ra_nil))) (pg_name (i := 2) sc__law_names.nd rfl (by first | exact Or.inl rfl | exact Or.inr rfl)) (vs := [2]) (tgx_name (by decide))
  (ss_one (s_fr (passes_of rfl) rfl (ri_v rfl (re_callA C__law_atom_names (hr.mono (by omega)) tk (ra_v (re_var 2 (pv 2)) ra_nil))) (pg_name (i := 3) sc__law_names.nd rfl (by first | exact Or.inl rfl | exact Or.inr rfl)) (vs := [3]) (tgx_name (by decide))
  (ss_one (s_if (rb_cmpN rfl (op_notInP (hu65 hr)) sn_notIn (pv 3) (rp_var 1 (pv 1)))
  (ss_one (s_expr (re_lm PySem.F.slot_list_append PySem.F.type_list_append mt_append sn_append rfl (pv 1) (ra_v (re_var 3 (pv 3)) ra_nil))))
  ss_nil)))))
  (ss_one (s_ret (re_sorted rfl rfl B.b_sorted (ra_v (re_frz (rn_lc (own := [("_law_name_here", 3)]) (tg := (tgN 3)) (hc := rfl) (hN := sc__law_names.nd) (ok := blkOk_by (N := n__law_names) (sc := defScope s__law_names) (by decide +kernel)) (hi := (ri_v rfl (re_var 1 (pv 1)))) (hg := fun _ _ _ _ _ => (pg_name (i := 3) sc__law_names.nd rfl (by first | exact Or.inl rfl | exact Or.inr rfl))) (ht := fun _ _ _ _ _ => pts_no) (he := fun _ _ _ _ _ => (re_str1 (hg := rfl) (hm := B.b_str) (ha := (ra_n 3 (pv 3) ra_nil)))) (tk := (tgx_name (by decide))))) ra_nil))))))
abbrev s__law_agrees : Stmt := top 58
abbrev n__law_agrees : List Str := ["_law_test", "_law_form_here", "_law_names_here", "_law_parts", "_law_forms", "_law_at"]
theorem sc__law_agrees : FnScope n__law_agrees ["_law_test", "_law_form_here"] (defScope s__law_agrees) := ⟨rfl, rfl, rfl, by decide +kernel, rfl, by decide +kernel, by decide +kernel⟩
def q__law_agrees_2 (r__law_agrees : FM) : SM := (retM (cst (.bl false)))
@[simp] theorem e__law_agrees_2 (r__law_agrees : FM) (ρ : Ev) : q__law_agrees_2 r__law_agrees ρ = (retM (cst (.bl false))) ρ := (rfl)
def q__law_agrees_1 (r__law_agrees : FM) : SM := (ifM (orM (asB (bin pyNe (mthE [(3, m_Test__kind)] "kind" (selfN 0) argNil) (binN pyIx 1 (cst (.int 0))))) (notM (truM (callE m__law_are (argV (mthE [(3, m_Test__parts)] "parts" (selfN 0) argNil) (argV (callE m__law_inner (argV (getv 1) argNil)) argNil))))))
  (q__law_agrees_2 r__law_agrees)
  skipM)
@[simp] theorem e__law_agrees_1 (r__law_agrees : FM) (ρ : Ev) : q__law_agrees_1 r__law_agrees ρ = (ifM (orM (asB (bin pyNe (mthE [(3, m_Test__kind)] "kind" (selfN 0) argNil) (binN pyIx 1 (cst (.int 0))))) (notM (truM (callE m__law_are (argV (mthE [(3, m_Test__parts)] "parts" (selfN 0) argNil) (argV (callE m__law_inner (argV (getv 1) argNil)) argNil))))))
  (q__law_agrees_2 r__law_agrees)
  skipM) ρ := (rfl)
def q__law_agrees_4 (r__law_agrees : FM) : SM := (retM (cst (.bl false)))
@[simp] theorem e__law_agrees_4 (r__law_agrees : FM) (ρ : Ev) : q__law_agrees_4 r__law_agrees ρ = (retM (cst (.bl false))) ρ := (rfl)
def q__law_agrees_3 (r__law_agrees : FM) : SM := (ifM (orM (notM (truM (callE m__law_are (argV (mthE [(3, (m_Test__atoms 40))] "atoms" (selfN 0) argNil) (argV (callE (m__law_atoms 40) (argV (getv 1) argNil)) argNil))))) (notM (truM (callE m__law_are (argV (callE (m_conjuncts 40) (argV (getv 0) argNil)) (argV (callE (m__law_conjuncts 40) (argV (getv 1) argNil)) argNil))))))
  (q__law_agrees_4 r__law_agrees)
  skipM)
@[simp] theorem e__law_agrees_3 (r__law_agrees : FM) (ρ : Ev) : q__law_agrees_3 r__law_agrees ρ = (ifM (orM (notM (truM (callE m__law_are (argV (mthE [(3, (m_Test__atoms 40))] "atoms" (selfN 0) argNil) (argV (callE (m__law_atoms 40) (argV (getv 1) argNil)) argNil))))) (notM (truM (callE m__law_are (argV (callE (m_conjuncts 40) (argV (getv 0) argNil)) (argV (callE (m__law_conjuncts 40) (argV (getv 1) argNil)) argNil))))))
  (q__law_agrees_4 r__law_agrees)
  skipM) ρ := (rfl)
def q__law_agrees_6 (r__law_agrees : FM) : SM := (retM (cst (.bl false)))
@[simp] theorem e__law_agrees_6 (r__law_agrees : FM) (ρ : Ev) : q__law_agrees_6 r__law_agrees ρ = (retM (cst (.bl false))) ρ := (rfl)
def q__law_agrees_5 (r__law_agrees : FM) : SM := (ifM (orM (notM (truM (callE m__law_is_integer (argV (mthE [(3, (m_Test__levels 40))] "levels" (selfN 0) argNil) argNil)))) (asB (bin pyNe (mthE [(3, (m_Test__levels 40))] "levels" (selfN 0) argNil) (callE (m__law_levels 40) (argV (getv 1) argNil)))))
  (q__law_agrees_6 r__law_agrees)
  skipM)
@[simp] theorem e__law_agrees_5 (r__law_agrees : FM) (ρ : Ev) : q__law_agrees_5 r__law_agrees ρ = (ifM (orM (notM (truM (callE m__law_is_integer (argV (mthE [(3, (m_Test__levels 40))] "levels" (selfN 0) argNil) argNil)))) (asB (bin pyNe (mthE [(3, (m_Test__levels 40))] "levels" (selfN 0) argNil) (callE (m__law_levels 40) (argV (getv 1) argNil)))))
  (q__law_agrees_6 r__law_agrees)
  skipM) ρ := (rfl)
def q__law_agrees_7 (r__law_agrees : FM) : SM := (setO 2 (mthO [(3, m_Test__names)] "names" (selfN 0) argNil))
@[simp] theorem e__law_agrees_7 (r__law_agrees : FM) (ρ : Ev) : q__law_agrees_7 r__law_agrees ρ = (setO 2 (mthO [(3, m_Test__names)] "names" (selfN 0) argNil)) ρ := (rfl)
def q__law_agrees_9 (r__law_agrees : FM) : SM := (retM (cst (.bl false)))
@[simp] theorem e__law_agrees_9 (r__law_agrees : FM) (ρ : Ev) : q__law_agrees_9 r__law_agrees ρ = (retM (cst (.bl false))) ρ := (rfl)
def q__law_agrees_8 (r__law_agrees : FM) : SM := (ifM (orM (notM (truM (isM (peek 2) .list))) (asB (binN pyNe 2 (callE m__law_names (argV (getv 1) argNil)))))
  (q__law_agrees_9 r__law_agrees)
  skipM)
@[simp] theorem e__law_agrees_8 (r__law_agrees : FM) (ρ : Ev) : q__law_agrees_8 r__law_agrees ρ = (ifM (orM (notM (truM (isM (peek 2) .list))) (asB (binN pyNe 2 (callE m__law_names (argV (getv 1) argNil)))))
  (q__law_agrees_9 r__law_agrees)
  skipM) ρ := (rfl)
def q__law_agrees_10 (r__law_agrees : FM) : SM := (exprM (methM lAppend 2 (argV (cst (.str "x")) argNil)))
@[simp] theorem e__law_agrees_10 (r__law_agrees : FM) (ρ : Ev) : q__law_agrees_10 r__law_agrees ρ = (exprM (methM lAppend 2 (argV (cst (.str "x")) argNil))) ρ := (rfl)
def q__law_agrees_11 (r__law_agrees : FM) : SM := (exprM (tmpM lAppend (mthO [(3, m_Test__parts)] "parts" (selfN 0) argNil) (argV (getv 0) argNil)))
@[simp] theorem e__law_agrees_11 (r__law_agrees : FM) (ρ : Ev) : q__law_agrees_11 r__law_agrees ρ = (exprM (tmpM lAppend (mthO [(3, m_Test__parts)] "parts" (selfN 0) argNil) (argV (getv 0) argNil))) ρ := (rfl)
def q__law_agrees_12 (r__law_agrees : FM) : SM := (exprM (tmpM lClear (mthO [(3, (m_Test__atoms 40))] "atoms" (selfN 0) argNil) argNil))
@[simp] theorem e__law_agrees_12 (r__law_agrees : FM) (ρ : Ev) : q__law_agrees_12 r__law_agrees ρ = (exprM (tmpM lClear (mthO [(3, (m_Test__atoms 40))] "atoms" (selfN 0) argNil) argNil)) ρ := (rfl)
def q__law_agrees_13 (r__law_agrees : FM) : SM := (exprM (tmpM lClear (callO (m_conjuncts 40) (argV (getv 0) argNil)) argNil))
@[simp] theorem e__law_agrees_13 (r__law_agrees : FM) (ρ : Ev) : q__law_agrees_13 r__law_agrees ρ = (exprM (tmpM lClear (callO (m_conjuncts 40) (argV (getv 0) argNil)) argNil)) ρ := (rfl)
def q__law_agrees_15 (r__law_agrees : FM) : SM := (retM (cst (.bl false)))
@[simp] theorem e__law_agrees_15 (r__law_agrees : FM) (ρ : Ev) : q__law_agrees_15 r__law_agrees ρ = (retM (cst (.bl false))) ρ := (rfl)
def q__law_agrees_14 (r__law_agrees : FM) : SM := (ifM (orM (asB (bin pyNe (mthE [(3, m_Test__names)] "names" (selfN 0) argNil) (callE m__law_names (argV (getv 1) argNil)))) (asB (bin pyNe (callB bLen (argV (mthE [(3, m_Test__parts)] "parts" (selfN 0) argNil) argNil)) (callB bLen (argV (callE m__law_inner (argV (getv 1) argNil)) argNil)))))
  (q__law_agrees_15 r__law_agrees)
  skipM)
@[simp] theorem e__law_agrees_14 (r__law_agrees : FM) (ρ : Ev) : q__law_agrees_14 r__law_agrees ρ = (ifM (orM (asB (bin pyNe (mthE [(3, m_Test__names)] "names" (selfN 0) argNil) (callE m__law_names (argV (getv 1) argNil)))) (asB (bin pyNe (callB bLen (argV (mthE [(3, m_Test__parts)] "parts" (selfN 0) argNil) argNil)) (callB bLen (argV (callE m__law_inner (argV (getv 1) argNil)) argNil)))))
  (q__law_agrees_15 r__law_agrees)
  skipM) ρ := (rfl)
def q__law_agrees_17 (r__law_agrees : FM) : SM := (retM (cst (.bl false)))
@[simp] theorem e__law_agrees_17 (r__law_agrees : FM) (ρ : Ev) : q__law_agrees_17 r__law_agrees ρ = (retM (cst (.bl false))) ρ := (rfl)
def q__law_agrees_16 (r__law_agrees : FM) : SM := (ifM (orM (asB (bin pyNe (callB bLen (argV (mthE [(3, (m_Test__atoms 40))] "atoms" (selfN 0) argNil) argNil)) (callB bLen (argV (callE (m__law_atoms 40) (argV (getv 1) argNil)) argNil)))) (asB (bin pyNe (callB bLen (argV (callE (m_conjuncts 40) (argV (getv 0) argNil)) argNil)) (callB bLen (argV (callE (m__law_conjuncts 40) (argV (getv 1) argNil)) argNil)))))
  (q__law_agrees_17 r__law_agrees)
  skipM)
@[simp] theorem e__law_agrees_16 (r__law_agrees : FM) (ρ : Ev) : q__law_agrees_16 r__law_agrees ρ = (ifM (orM (asB (bin pyNe (callB bLen (argV (mthE [(3, (m_Test__atoms 40))] "atoms" (selfN 0) argNil) argNil)) (callB bLen (argV (callE (m__law_atoms 40) (argV (getv 1) argNil)) argNil)))) (asB (bin pyNe (callB bLen (argV (callE (m_conjuncts 40) (argV (getv 0) argNil)) argNil)) (callB bLen (argV (callE (m__law_conjuncts 40) (argV (getv 1) argNil)) argNil)))))
  (q__law_agrees_17 r__law_agrees)
  skipM) ρ := (rfl)
def q__law_agrees_18 (r__law_agrees : FM) : SM := (setM 3 (mthE [(3, m_Test__parts)] "parts" (selfN 0) argNil))
@[simp] theorem e__law_agrees_18 (r__law_agrees : FM) (ρ : Ev) : q__law_agrees_18 r__law_agrees ρ = (setM 3 (mthE [(3, m_Test__parts)] "parts" (selfN 0) argNil)) ρ := (rfl)
def q__law_agrees_19 (r__law_agrees : FM) : SM := (setM 4 (callE m__law_inner (argV (getv 1) argNil)))
@[simp] theorem e__law_agrees_19 (r__law_agrees : FM) (ρ : Ev) : q__law_agrees_19 r__law_agrees ρ = (setM 4 (callE m__law_inner (argV (getv 1) argNil))) ρ := (rfl)
def q__law_agrees_22 (r__law_agrees : FM) : SM := (retM (cst (.bl false)))
@[simp] theorem e__law_agrees_22 (r__law_agrees : FM) (ρ : Ev) : q__law_agrees_22 r__law_agrees ρ = (retM (cst (.bl false))) ρ := (rfl)
def q__law_agrees_21 (r__law_agrees : FM) : SM := (ifM (notM (truM (callE r__law_agrees (argV (binN pyIx 3 (peek 5)) (argV (binN pyIx 4 (peek 5)) argNil)))))
  (q__law_agrees_22 r__law_agrees)
  skipM)
@[simp] theorem e__law_agrees_21 (r__law_agrees : FM) (ρ : Ev) : q__law_agrees_21 r__law_agrees ρ = (ifM (notM (truM (callE r__law_agrees (argV (binN pyIx 3 (peek 5)) (argV (binN pyIx 4 (peek 5)) argNil)))))
  (q__law_agrees_22 r__law_agrees)
  skipM) ρ := (rfl)
def q__law_agrees_20 (r__law_agrees : FM) : SM := (frM (itR1 (callB bLen (argN 4 argNil))) (tgN 5)
  (q__law_agrees_21 r__law_agrees))
@[simp] theorem e__law_agrees_20 (r__law_agrees : FM) (ρ : Ev) : q__law_agrees_20 r__law_agrees ρ = (frM (itR1 (callB bLen (argN 4 argNil))) (tgN 5)
  (q__law_agrees_21 r__law_agrees)) ρ := (rfl)
def q__law_agrees_23 (r__law_agrees : FM) : SM := (retM (cst (.bl true)))
@[simp] theorem e__law_agrees_23 (r__law_agrees : FM) (ρ : Ev) : q__law_agrees_23 r__law_agrees ρ = (retM (cst (.bl true))) ρ := (rfl)
def b__law_agrees (r__law_agrees : FM) : FM := fnB 2 6
  (seqM (q__law_agrees_1 r__law_agrees)
  (seqM (q__law_agrees_3 r__law_agrees)
  (seqM (q__law_agrees_5 r__law_agrees)
  (seqM (q__law_agrees_7 r__law_agrees)
  (seqM (q__law_agrees_8 r__law_agrees)
  (seqM (q__law_agrees_10 r__law_agrees)
  (seqM (q__law_agrees_11 r__law_agrees)
  (seqM (q__law_agrees_12 r__law_agrees)
  (seqM (q__law_agrees_13 r__law_agrees)
  (seqM (q__law_agrees_14 r__law_agrees)
  (seqM (q__law_agrees_16 r__law_agrees)
  (seqM (q__law_agrees_18 r__law_agrees)
  (seqM (q__law_agrees_19 r__law_agrees)
  (seqM (q__law_agrees_20 r__law_agrees)
  (q__law_agrees_23 r__law_agrees)))))))))))))))
mutual
def m__law_agrees : Nat → FM
  | 0 => stF
  | n + 1 => b__law_agrees (m__law_agrees n)
end
theorem em__law_agrees (n : Nat) (as : List Slot) : m__law_agrees (n + 1) as = if as.length = 2 then fin 2 as ((seqM (q__law_agrees_1 (m__law_agrees n))
  (seqM (q__law_agrees_3 (m__law_agrees n))
  (seqM (q__law_agrees_5 (m__law_agrees n))
  (seqM (q__law_agrees_7 (m__law_agrees n))
  (seqM (q__law_agrees_8 (m__law_agrees n))
  (seqM (q__law_agrees_10 (m__law_agrees n))
  (seqM (q__law_agrees_11 (m__law_agrees n))
  (seqM (q__law_agrees_12 (m__law_agrees n))
  (seqM (q__law_agrees_13 (m__law_agrees n))
  (seqM (q__law_agrees_14 (m__law_agrees n))
  (seqM (q__law_agrees_16 (m__law_agrees n))
  (seqM (q__law_agrees_18 (m__law_agrees n))
  (seqM (q__law_agrees_19 (m__law_agrees n))
  (seqM (q__law_agrees_20 (m__law_agrees n))
  (q__law_agrees_23 (m__law_agrees n)))))))))))))))) (enter 6 as)) else .stuck := by
  rw [m__law_agrees]
  exact ev_fn _ _ _ as
theorem okb__law_agrees {P : Program} {w : World} {K : PySem.W.Frag} {mg : Str → Option Value} {base : Heap} {k : Nat} (hk : 87 ≤ k) (r__law_agrees : FM) (B : BN K mg) (C_Test__kind : MtAt P w K mg base (DW K mg) 1 "kind" 3 m_Test__kind) (C__law_are : FnAt P w K mg base (DW K mg) 87 "_law_are" ["_law_tests", "_law_forms"] m__law_are) (C__law_inner : FnAt P w K mg base (DW K mg) 1 "_law_inner" ["_law_form_here"] m__law_inner) (C_Test__parts : MtAt P w K mg base (DW K mg) 1 "parts" 3 m_Test__parts) (C__law_atoms : FnAt P w K mg base (DW K mg) 40 "_law_atoms" ["_law_form_here"] (m__law_atoms 40)) (C_Test__atoms : MtAt P w K mg base (DW K mg) 40 "atoms" 3 (m_Test__atoms 40)) (C__law_conjuncts : FnAt P w K mg base (DW K mg) 40 "_law_conjuncts" ["_law_form_here"] (m__law_conjuncts 40)) (C_conjuncts : FnAt P w K mg base (DW K mg) 41 "conjuncts" ["test"] (m_conjuncts 40)) (C__law_is_integer : FnAt P w K mg base (DW K mg) 1 "_law_is_integer" ["_law_thing"] m__law_is_integer) (C_Test__levels : MtAt P w K mg base (DW K mg) 40 "levels" 3 (m_Test__levels 40)) (C__law_levels : FnAt P w K mg base (DW K mg) 40 "_law_levels" ["_law_form_here"] (m__law_levels 40)) (C_Test__names : MtAt P w K mg base (DW K mg) 41 "names" 3 m_Test__names) (C__law_names : FnAt P w K mg base (DW K mg) 41 "_law_names" ["_law_form_here"] m__law_names) (C__law_agrees : FnAt P w K mg base (DW K mg) k "_law_agrees" ["_law_test", "_law_form_here"] r__law_agrees) (d : DefAt K mg "_law_agrees" s__law_agrees ["_law_test", "_law_form_here"]) : FnAt P w K mg base (DW K mg) (k + 1) "_law_agrees" ["_law_test", "_law_form_here"] (b__law_agrees r__law_agrees) :=
  fn_at d sc__law_agrees rfl (by decide) fun cdv A outer s H E hr tk =>
  (ss_cons (s_if (rb_w (rw_or (rb_cmp (nomark _) (op_neP hr.units) sn_ne (re_mth0 (tbl_cons (C_Test__kind.mono (by omega)) tbl_nil) hr tk (rs_n 0 (pv 0))) (rp_of (re_ixN (hu1 hr) rfl (pv 1) (rp_of re_int)))) (rw_or1 (rb_not (rb_truth (rp_of (re_callA C__law_are (hr.mono (by omega)) tk (ra_v (re_mth0 (tbl_cons (C_Test__parts.mono (by omega)) tbl_nil) hr tk (rs_n 0 (pv 0))) (ra_v (re_callA C__law_inner (hr.mono (by omega)) tk (ra_v (re_var 1 (pv 1)) ra_nil)) ra_nil)))) rfl)))))
  (ss_one (s_ret re_bl))
  ss_nil)
  (ss_cons (s_if (rb_w (rw_or (rb_not (rb_truth (rp_of (re_callA C__law_are (hr.mono (by omega)) tk (ra_v (re_mth0 (tbl_cons (C_Test__atoms.mono (by omega)) tbl_nil) hr tk (rs_n 0 (pv 0))) (ra_v (re_callA C__law_atoms (hr.mono (by omega)) tk (ra_v (re_var 1 (pv 1)) ra_nil)) ra_nil)))) rfl)) (rw_or1 (rb_not (rb_truth (rp_of (re_callA C__law_are (hr.mono (by omega)) tk (ra_v (re_callA C_conjuncts (hr.mono (by omega)) tk (ra_v (re_var 0 (pv 0)) ra_nil)) (ra_v (re_callA C__law_conjuncts (hr.mono (by omega)) tk (ra_v (re_var 1 (pv 1)) ra_nil)) ra_nil)))) rfl)))))
  (ss_one (s_ret re_bl))
  ss_nil)
  (ss_cons (s_if (rb_w (rw_or (rb_not (rb_truth (rp_of (re_callA C__law_is_integer (hr.mono (by omega)) tk (ra_v (re_mth0 (tbl_cons (C_Test__levels.mono (by omega)) tbl_nil) hr tk (rs_n 0 (pv 0))) ra_nil))) rfl)) (rw_or1 (rb_cmp (nomark _) (op_neP hr.units) sn_ne (re_mth0 (tbl_cons (C_Test__levels.mono (by omega)) tbl_nil) hr tk (rs_n 0 (pv 0))) (rp_of (re_callA C__law_levels (hr.mono (by omega)) tk (ra_v (re_var 1 (pv 1)) ra_nil)))))))
  (ss_one (s_ret re_bl))
  ss_nil)
  (ss_cons (s_setO (i := 2) sc__law_agrees.nd rfl (by first | exact Or.inl rfl | exact Or.inr rfl) (rn_mth0 (tbl_cons (C_Test__names.mono (by omega)) tbl_nil) hr tk (rs_n 0 (pv 0))))
  (ss_cons (s_if (rb_w (rw_or (rb_not (rb_truth (rp_of (re_isi B.hT .list rfl (rp_var 2 (pv 2)) rfl B.b_isinstance rfl B.b_list PyProof.Rows.boot_list)) rfl)) (rw_or1 (rb_cmpN (nomark _) (op_neP hr.units) sn_ne (pv 2) (rp_of (re_callA C__law_names (hr.mono (by omega)) tk (ra_v (re_var 1 (pv 1)) ra_nil)))))))
  (ss_one (s_ret re_bl))
  ss_nil)
  (ss_cons (s_expr (re_lm PySem.F.slot_list_append PySem.F.type_list_append mt_append sn_append rfl (pv 2) (ra_v re_str ra_nil)))
  (ss_cons (s_expr (re_tm PySem.F.slot_list_append PySem.F.type_list_append mt_append sn_append rfl (rn_mth0 (tbl_cons (C_Test__parts.mono (by omega)) tbl_nil) hr tk (rs_n 0 (pv 0))) (ra_v (re_var 0 (pv 0)) ra_nil)))
  (ss_cons (s_expr (re_tm0 PySem.F.slot_list_clear PySem.F.type_list_clear mt_clear sn_clear rfl (rn_mth0 (tbl_cons (C_Test__atoms.mono (by omega)) tbl_nil) hr tk (rs_n 0 (pv 0)))))
  (ss_cons (s_expr (re_tm0 PySem.F.slot_list_clear PySem.F.type_list_clear mt_clear sn_clear rfl (rn_callA C_conjuncts (hr.mono (by omega)) tk (ra_v (re_var 0 (pv 0)) ra_nil))))
  (ss_cons (s_if (rb_w (rw_or (rb_cmp (nomark _) (op_neP hr.units) sn_ne (re_mth0 (tbl_cons (C_Test__names.mono (by omega)) tbl_nil) hr tk (rs_n 0 (pv 0))) (rp_of (re_callA C__law_names (hr.mono (by omega)) tk (ra_v (re_var 1 (pv 1)) ra_nil)))) (rw_or1 (rb_cmp (nomark _) (op_neP hr.units) sn_ne (re_len rfl (hg := rfl) (hm := B.b_len) (ha := (ra_v (re_mth0 (tbl_cons (C_Test__parts.mono (by omega)) tbl_nil) hr tk (rs_n 0 (pv 0))) ra_nil))) (rp_of (re_len rfl (hg := rfl) (hm := B.b_len) (ha := (ra_v (re_callA C__law_inner (hr.mono (by omega)) tk (ra_v (re_var 1 (pv 1)) ra_nil)) ra_nil))))))))
  (ss_one (s_ret re_bl))
  ss_nil)
  (ss_cons (s_if (rb_w (rw_or (rb_cmp (nomark _) (op_neP hr.units) sn_ne (re_len rfl (hg := rfl) (hm := B.b_len) (ha := (ra_v (re_mth0 (tbl_cons (C_Test__atoms.mono (by omega)) tbl_nil) hr tk (rs_n 0 (pv 0))) ra_nil))) (rp_of (re_len rfl (hg := rfl) (hm := B.b_len) (ha := (ra_v (re_callA C__law_atoms (hr.mono (by omega)) tk (ra_v (re_var 1 (pv 1)) ra_nil)) ra_nil))))) (rw_or1 (rb_cmp (nomark _) (op_neP hr.units) sn_ne (re_len rfl (hg := rfl) (hm := B.b_len) (ha := (ra_v (re_callA C_conjuncts (hr.mono (by omega)) tk (ra_v (re_var 0 (pv 0)) ra_nil)) ra_nil))) (rp_of (re_len rfl (hg := rfl) (hm := B.b_len) (ha := (ra_v (re_callA C__law_conjuncts (hr.mono (by omega)) tk (ra_v (re_var 1 (pv 1)) ra_nil)) ra_nil))))))))
  (ss_one (s_ret re_bl))
  ss_nil)
  (ss_cons (s_set (i := 3) sc__law_agrees.nd rfl (by first | exact Or.inl rfl | exact Or.inr rfl) (re_mth0 (tbl_cons (C_Test__parts.mono (by omega)) tbl_nil) hr tk (rs_n 0 (pv 0))))
  (ss_cons (s_set (i := 4) sc__law_agrees.nd rfl (by first | exact Or.inl rfl | exact Or.inr rfl) (re_callA C__law_inner (hr.mono (by omega)) tk (ra_v (re_var 1 (pv 1)) ra_nil)))
  (ss_cons (s_fr (passes_of rfl) rfl (ri_r1 rfl B.b_range (re_len rfl (hg := rfl) (hm := B.b_len) (ha := (ra_n 4 (pv 4) ra_nil)))) (pg_name (i := 5) sc__law_agrees.nd rfl (by first | exact Or.inl rfl | exact Or.inr rfl)) (vs := [5]) (tgx_name (by decide))
  (ss_one (s_if (rb_not (rb_truth (rp_of (re_callA C__law_agrees (hr.mono (by omega)) tk (ra_v (re_ixN (hu1 hr) rfl (pv 3) (rp_var 5 (pv 5))) (ra_v (re_ixN (hu1 hr) rfl (pv 4) (rp_var 5 (pv 5))) ra_nil)))) rfl))
  (ss_one (s_ret re_bl))
  ss_nil)))
  (ss_one (s_ret re_bl))))))))))))))))
theorem oks__law_agrees {P : Program} {w : World} {K : PySem.W.Frag} {mg : Str → Option Value} {base : Heap} (B : BN K mg) (C_Test__kind : MtAt P w K mg base (DW K mg) 1 "kind" 3 m_Test__kind) (C__law_are : FnAt P w K mg base (DW K mg) 87 "_law_are" ["_law_tests", "_law_forms"] m__law_are) (C__law_inner : FnAt P w K mg base (DW K mg) 1 "_law_inner" ["_law_form_here"] m__law_inner) (C_Test__parts : MtAt P w K mg base (DW K mg) 1 "parts" 3 m_Test__parts) (C__law_atoms : FnAt P w K mg base (DW K mg) 40 "_law_atoms" ["_law_form_here"] (m__law_atoms 40)) (C_Test__atoms : MtAt P w K mg base (DW K mg) 40 "atoms" 3 (m_Test__atoms 40)) (C__law_conjuncts : FnAt P w K mg base (DW K mg) 40 "_law_conjuncts" ["_law_form_here"] (m__law_conjuncts 40)) (C_conjuncts : FnAt P w K mg base (DW K mg) 41 "conjuncts" ["test"] (m_conjuncts 40)) (C__law_is_integer : FnAt P w K mg base (DW K mg) 1 "_law_is_integer" ["_law_thing"] m__law_is_integer) (C_Test__levels : MtAt P w K mg base (DW K mg) 40 "levels" 3 (m_Test__levels 40)) (C__law_levels : FnAt P w K mg base (DW K mg) 40 "_law_levels" ["_law_form_here"] (m__law_levels 40)) (C_Test__names : MtAt P w K mg base (DW K mg) 41 "names" 3 m_Test__names) (C__law_names : FnAt P w K mg base (DW K mg) 41 "_law_names" ["_law_form_here"] m__law_names) (d__law_agrees : DefAt K mg "_law_agrees" s__law_agrees ["_law_test", "_law_form_here"]) : ∀ n : Nat, (FnAt P w K mg base (DW K mg) (87 + n) "_law_agrees" ["_law_test", "_law_form_here"] (m__law_agrees n))
  | 0 => (by rw [m__law_agrees]; exact at_stk d__law_agrees)
  | n + 1 => by
    have i__law_agrees := oks__law_agrees (P := P) (w := w) (base := base) B C_Test__kind C__law_are C__law_inner C_Test__parts C__law_atoms C_Test__atoms C__law_conjuncts C_conjuncts C__law_is_integer C_Test__levels C__law_levels C_Test__names C__law_names d__law_agrees n
    exact (by rw [m__law_agrees]; exact okb__law_agrees (Nat.le_add_right _ _) _ B C_Test__kind C__law_are C__law_inner C_Test__parts C__law_atoms C_Test__atoms C__law_conjuncts C_conjuncts C__law_is_integer C_Test__levels C__law_levels C_Test__names C__law_names i__law_agrees d__law_agrees)
theorem ok__law_agrees {P : Program} {w : World} {K : PySem.W.Frag} {mg : Str → Option Value} {base : Heap} (B : BN K mg) (C_Test__kind : MtAt P w K mg base (DW K mg) 1 "kind" 3 m_Test__kind) (C__law_are : FnAt P w K mg base (DW K mg) 87 "_law_are" ["_law_tests", "_law_forms"] m__law_are) (C__law_inner : FnAt P w K mg base (DW K mg) 1 "_law_inner" ["_law_form_here"] m__law_inner) (C_Test__parts : MtAt P w K mg base (DW K mg) 1 "parts" 3 m_Test__parts) (C__law_atoms : FnAt P w K mg base (DW K mg) 40 "_law_atoms" ["_law_form_here"] (m__law_atoms 40)) (C_Test__atoms : MtAt P w K mg base (DW K mg) 40 "atoms" 3 (m_Test__atoms 40)) (C__law_conjuncts : FnAt P w K mg base (DW K mg) 40 "_law_conjuncts" ["_law_form_here"] (m__law_conjuncts 40)) (C_conjuncts : FnAt P w K mg base (DW K mg) 41 "conjuncts" ["test"] (m_conjuncts 40)) (C__law_is_integer : FnAt P w K mg base (DW K mg) 1 "_law_is_integer" ["_law_thing"] m__law_is_integer) (C_Test__levels : MtAt P w K mg base (DW K mg) 40 "levels" 3 (m_Test__levels 40)) (C__law_levels : FnAt P w K mg base (DW K mg) 40 "_law_levels" ["_law_form_here"] (m__law_levels 40)) (C_Test__names : MtAt P w K mg base (DW K mg) 41 "names" 3 m_Test__names) (C__law_names : FnAt P w K mg base (DW K mg) 41 "_law_names" ["_law_form_here"] m__law_names) (d__law_agrees : DefAt K mg "_law_agrees" s__law_agrees ["_law_test", "_law_form_here"]) : FnAt P w K mg base (DW K mg) 127 "_law_agrees" ["_law_test", "_law_form_here"] (m__law_agrees 40) := (oks__law_agrees B C_Test__kind C__law_are C__law_inner C_Test__parts C__law_atoms C_Test__atoms C__law_conjuncts C_conjuncts C__law_is_integer C_Test__levels C__law_levels C_Test__names C__law_names d__law_agrees 40)
abbrev s_law : Stmt := top 59
abbrev n_law : List Str := ["_law_script", "_law_draw", "_law_columns_here", "_law_form_here", "_law_test", "_law_parts"]
theorem sc_law : FnScope n_law ["_law_script"] (defScope s_law) := ⟨rfl, rfl, rfl, by decide +kernel, rfl, by decide +kernel, by decide +kernel⟩
def q_law_1  : SM := (setO 1 (callO m__law_begin (argV (getv 0) argNil)))
@[simp] theorem e_law_1  (ρ : Ev) : q_law_1  ρ = (setO 1 (callO m__law_begin (argV (getv 0) argNil))) ρ := (rfl)
def q_law_2  : SM := (setM 2 (callE m__law_columns (argN 1 (argV (cst (.int 4)) argNil))))
@[simp] theorem e_law_2  (ρ : Ev) : q_law_2  ρ = (setM 2 (callE m__law_columns (argN 1 (argV (cst (.int 4)) argNil)))) ρ := (rfl)
def q_law_3  : SM := (setM 3 (callE m__law_form (argN 1 (argV (getv 2) (argV (cst (.int 6)) argNil)))))
@[simp] theorem e_law_3  (ρ : Ev) : q_law_3  ρ = (setM 3 (callE m__law_form (argN 1 (argV (getv 2) (argV (cst (.int 6)) argNil))))) ρ := (rfl)
def q_law_4  : SM := (setM 4 (callE (m__law_make 40) (argV (getv 3) argNil)))
@[simp] theorem e_law_4  (ρ : Ev) : q_law_4  ρ = (setM 4 (callE (m__law_make 40) (argV (getv 3) argNil))) ρ := (rfl)
def q_law_6  : SM := (retM (cst (.bl false)))
@[simp] theorem e_law_6  (ρ : Ev) : q_law_6  ρ = (retM (cst (.bl false))) ρ := (rfl)
def q_law_5  : SM := (ifM (notM (truM (callE (m__law_agrees 40) (argV (getv 4) (argV (getv 3) argNil)))))
  q_law_6
  skipM)
@[simp] theorem e_law_5  (ρ : Ev) : q_law_5  ρ = (ifM (notM (truM (callE (m__law_agrees 40) (argV (getv 4) (argV (getv 3) argNil)))))
  q_law_6
  skipM) ρ := (rfl)
def q_law_7  : SM := (setM 5 (mthE [(3, m_Test__parts)] "parts" (selfN 4) argNil))
@[simp] theorem e_law_7  (ρ : Ev) : q_law_7  ρ = (setM 5 (mthE [(3, m_Test__parts)] "parts" (selfN 4) argNil)) ρ := (rfl)
def q_law_9  : SM := (retM (bin (pyEqO [(3, (m_Test____eq__ 40))] 0) (dunE 3 m_Test____and__ (binN pyIx 5 (cst (.int 0))) (binN pyIx 5 (cst (.int 1)))) (peek 4)))
@[simp] theorem e_law_9  (ρ : Ev) : q_law_9  ρ = (retM (bin (pyEqO [(3, (m_Test____eq__ 40))] 0) (dunE 3 m_Test____and__ (binN pyIx 5 (cst (.int 0))) (binN pyIx 5 (cst (.int 1)))) (peek 4))) ρ := (rfl)
def q_law_8  : SM := (ifM (asB (bin (pyEqO [(3, (m_Test____eq__ 40))] 0) (binN pyIx 3 (cst (.int 0))) (cst (.str "and"))))
  q_law_9
  skipM)
@[simp] theorem e_law_8  (ρ : Ev) : q_law_8  ρ = (ifM (asB (bin (pyEqO [(3, (m_Test____eq__ 40))] 0) (binN pyIx 3 (cst (.int 0))) (cst (.str "and"))))
  q_law_9
  skipM) ρ := (rfl)
def q_law_11  : SM := (retM (bin (pyEqO [(3, (m_Test____eq__ 40))] 0) (dunE 3 m_Test____or__ (binN pyIx 5 (cst (.int 0))) (binN pyIx 5 (cst (.int 1)))) (peek 4)))
@[simp] theorem e_law_11  (ρ : Ev) : q_law_11  ρ = (retM (bin (pyEqO [(3, (m_Test____eq__ 40))] 0) (dunE 3 m_Test____or__ (binN pyIx 5 (cst (.int 0))) (binN pyIx 5 (cst (.int 1)))) (peek 4))) ρ := (rfl)
def q_law_10  : SM := (ifM (asB (bin (pyEqO [(3, (m_Test____eq__ 40))] 0) (binN pyIx 3 (cst (.int 0))) (cst (.str "or"))))
  q_law_11
  skipM)
@[simp] theorem e_law_10  (ρ : Ev) : q_law_10  ρ = (ifM (asB (bin (pyEqO [(3, (m_Test____eq__ 40))] 0) (binN pyIx 3 (cst (.int 0))) (cst (.str "or"))))
  q_law_11
  skipM) ρ := (rfl)
def q_law_13  : SM := (retM (bin (pyEqO [(3, (m_Test____eq__ 40))] 0) (invE 3 m_Test____invert__ (binN pyIx 5 (cst (.int 0)))) (peek 4)))
@[simp] theorem e_law_13  (ρ : Ev) : q_law_13  ρ = (retM (bin (pyEqO [(3, (m_Test____eq__ 40))] 0) (invE 3 m_Test____invert__ (binN pyIx 5 (cst (.int 0)))) (peek 4))) ρ := (rfl)
def q_law_12  : SM := (ifM (asB (bin (pyEqO [(3, (m_Test____eq__ 40))] 0) (binN pyIx 3 (cst (.int 0))) (cst (.str "not"))))
  q_law_13
  skipM)
@[simp] theorem e_law_12  (ρ : Ev) : q_law_12  ρ = (ifM (asB (bin (pyEqO [(3, (m_Test____eq__ 40))] 0) (binN pyIx 3 (cst (.int 0))) (cst (.str "not"))))
  q_law_13
  skipM) ρ := (rfl)
def q_law_15  : SM := (retM (bin (pyEqO [(3, (m_Test____eq__ 40))] 0) (callE m_sure (argV (binN pyIx 5 (cst (.int 0))) argNil)) (peek 4)))
@[simp] theorem e_law_15  (ρ : Ev) : q_law_15  ρ = (retM (bin (pyEqO [(3, (m_Test____eq__ 40))] 0) (callE m_sure (argV (binN pyIx 5 (cst (.int 0))) argNil)) (peek 4))) ρ := (rfl)
def q_law_14  : SM := (ifM (asB (bin (pyEqO [(3, (m_Test____eq__ 40))] 0) (binN pyIx 3 (cst (.int 0))) (cst (.str "sure"))))
  q_law_15
  skipM)
@[simp] theorem e_law_14  (ρ : Ev) : q_law_14  ρ = (ifM (asB (bin (pyEqO [(3, (m_Test____eq__ 40))] 0) (binN pyIx 3 (cst (.int 0))) (cst (.str "sure"))))
  q_law_15
  skipM) ρ := (rfl)
def q_law_16  : SM := (retM (bin (pyEqO [(3, (m_Test____eq__ 40))] 0) (callB bLen (argN 5 argNil)) (cst (.int 0))))
@[simp] theorem e_law_16  (ρ : Ev) : q_law_16  ρ = (retM (bin (pyEqO [(3, (m_Test____eq__ 40))] 0) (callB bLen (argN 5 argNil)) (cst (.int 0)))) ρ := (rfl)
def m_law : FM := fnB 1 6
  (seqM q_law_1
  (seqM q_law_2
  (seqM q_law_3
  (seqM q_law_4
  (seqM q_law_5
  (seqM q_law_7
  (seqM q_law_8
  (seqM q_law_10
  (seqM q_law_12
  (seqM q_law_14
  q_law_16))))))))))
theorem em_law (as : List Slot) : m_law as = if as.length = 1 then fin 1 as ((seqM q_law_1
  (seqM q_law_2
  (seqM q_law_3
  (seqM q_law_4
  (seqM q_law_5
  (seqM q_law_7
  (seqM q_law_8
  (seqM q_law_10
  (seqM q_law_12
  (seqM q_law_14
  q_law_16)))))))))) (enter 6 as)) else .stuck := ev_fn _ _ _ as
theorem ok_law {P : Program} {w : World} {K : PySem.W.Frag} {mg : Str → Option Value} {base : Heap} (B : BN K mg) (C__law_begin : FnAt P w K mg base (DW K mg) 1 "_law_begin" ["_law_script"] m__law_begin) (C__law_columns : FnAt P w K mg base (DW K mg) 3 "_law_columns" ["_law_draw", "_law_most"] m__law_columns) (C__law_form : FnAt P w K mg base (DW K mg) 5 "_law_form" ["_law_draw", "_law_columns_here", "_law_most"] m__law_form) (C__law_make : FnAt P w K mg base (DW K mg) 85 "_law_make" ["_law_form_here"] (m__law_make 40)) (C__law_agrees : FnAt P w K mg base (DW K mg) 127 "_law_agrees" ["_law_test", "_law_form_here"] (m__law_agrees 40)) (C_Test__parts : MtAt P w K mg base (DW K mg) 1 "parts" 3 m_Test__parts) (C_Test____eq__ : MtAt P w K mg base (DW K mg) 81 "__eq__" 3 (m_Test____eq__ 40)) (C_Test____and__ : MtAt P w K mg base (DW K mg) 45 "__and__" 3 m_Test____and__) (C_Test____or__ : MtAt P w K mg base (DW K mg) 45 "__or__" 3 m_Test____or__) (C_Test____invert__ : MtAt P w K mg base (DW K mg) 44 "__invert__" 3 m_Test____invert__) (C_sure : FnAt P w K mg base (DW K mg) 44 "sure" ["test"] m_sure) (d : DefAt K mg "law" s_law ["_law_script"]) : FnAt P w K mg base (DW K mg) 129 "law" ["_law_script"] m_law :=
  fn_at d sc_law rfl (by decide) fun cdv A outer s H E hr tk =>
  (ss_cons (s_setO (i := 1) sc_law.nd rfl (by first | exact Or.inl rfl | exact Or.inr rfl) (rn_callA C__law_begin (hr.mono (by omega)) tk (ra_v (re_var 0 (pv 0)) ra_nil)))
  (ss_cons (s_set (i := 2) sc_law.nd rfl (by first | exact Or.inl rfl | exact Or.inr rfl) (re_callA C__law_columns (hr.mono (by omega)) tk (ra_n 1 (pv 1) (ra_v re_int ra_nil))))
  (ss_cons (s_set (i := 3) sc_law.nd rfl (by first | exact Or.inl rfl | exact Or.inr rfl) (re_callA C__law_form (hr.mono (by omega)) tk (ra_n 1 (pv 1) (ra_v (re_var 2 (pv 2)) (ra_v re_int ra_nil)))))
  (ss_cons (s_set (i := 4) sc_law.nd rfl (by first | exact Or.inl rfl | exact Or.inr rfl) (re_callA C__law_make (hr.mono (by omega)) tk (ra_v (re_var 3 (pv 3)) ra_nil)))
  (ss_cons (s_if (rb_not (rb_truth (rp_of (re_callA C__law_agrees (hr.mono (by omega)) tk (ra_v (re_var 4 (pv 4)) (ra_v (re_var 3 (pv 3)) ra_nil)))) rfl))
  (ss_one (s_ret re_bl))
  ss_nil)
  (ss_cons (s_set (i := 5) sc_law.nd rfl (by first | exact Or.inl rfl | exact Or.inr rfl) (re_mth0 (tbl_cons (C_Test__parts.mono (by omega)) tbl_nil) hr tk (rs_n 4 (pv 4))))
  (ss_cons (s_if (rb_eqO (d := 0) rfl hr.units (tbl_cons C_Test____eq__ tbl_nil) (dun_one B.du_3) (hr.mono (by omega)) (re_ixN (hu1 hr) rfl (pv 3) (rp_of re_int)) (rp_of re_str))
  (ss_one (s_ret (re_eqO (d := 0) rfl hr.units (tbl_cons C_Test____eq__ tbl_nil) (dun_one B.du_3) (hr.mono (by omega)) (re_dun rfl B.du_3 C_Test____and__ (hr.mono (by omega)) tk (re_ixN (hu1 hr) rfl (pv 5) (rp_of re_int)) (re_ixN (hu1 hr) rfl (pv 5) (rp_of re_int))) (rp_var 4 (pv 4)))))
  ss_nil)
  (ss_cons (s_if (rb_eqO (d := 0) rfl hr.units (tbl_cons C_Test____eq__ tbl_nil) (dun_one B.du_3) (hr.mono (by omega)) (re_ixN (hu1 hr) rfl (pv 3) (rp_of re_int)) (rp_of re_str))
  (ss_one (s_ret (re_eqO (d := 0) rfl hr.units (tbl_cons C_Test____eq__ tbl_nil) (dun_one B.du_3) (hr.mono (by omega)) (re_dun rfl B.du_3 C_Test____or__ (hr.mono (by omega)) tk (re_ixN (hu1 hr) rfl (pv 5) (rp_of re_int)) (re_ixN (hu1 hr) rfl (pv 5) (rp_of re_int))) (rp_var 4 (pv 4)))))
  ss_nil)
  (ss_cons (s_if (rb_eqO (d := 0) rfl hr.units (tbl_cons C_Test____eq__ tbl_nil) (dun_one B.du_3) (hr.mono (by omega)) (re_ixN (hu1 hr) rfl (pv 3) (rp_of re_int)) (rp_of re_str))
  (ss_one (s_ret (re_eqO (d := 0) rfl hr.units (tbl_cons C_Test____eq__ tbl_nil) (dun_one B.du_3) (hr.mono (by omega)) (re_inv C_Test____invert__ (hr.mono (by omega)) tk (re_ixN (hu1 hr) rfl (pv 5) (rp_of re_int))) (rp_var 4 (pv 4)))))
  ss_nil)
  (ss_cons (s_if (rb_eqO (d := 0) rfl hr.units (tbl_cons C_Test____eq__ tbl_nil) (dun_one B.du_3) (hr.mono (by omega)) (re_ixN (hu1 hr) rfl (pv 3) (rp_of re_int)) (rp_of re_str))
  (ss_one (s_ret (re_eqO (d := 0) rfl hr.units (tbl_cons C_Test____eq__ tbl_nil) (dun_one B.du_3) (hr.mono (by omega)) (re_callA C_sure (hr.mono (by omega)) tk (ra_v (re_ixN (hu1 hr) rfl (pv 5) (rp_of re_int)) ra_nil)) (rp_var 4 (pv 4)))))
  ss_nil)
  (ss_one (s_ret (re_eqO (d := 0) rfl hr.units (tbl_cons C_Test____eq__ tbl_nil) (dun_one B.du_3) (hr.mono (by omega)) (re_len rfl (hg := rfl) (hm := B.b_len) (ha := (ra_n 5 (pv 5) ra_nil))) (rp_of re_int))))))))))))))
end
end Gk

set_option Elab.async false
set_option linter.all false
set_option maxRecDepth 100000
namespace Gk
open PySem PySem.Spec L2 TR
set_option autoImplicit false
theorem ix0c (x : PV) (xs : List PV) : atI (x :: xs) 0 = some x := by
  unfold atI ixN
  simp
theorem ix1c (x y : PV) (xs : List PV) : atI (x :: y :: xs) 1 = some y := by
  unfold atI ixN
  have : (1 : Int) < ((x :: y :: xs).length : Int) := by simp; omega
  rw [if_pos (by decide), if_pos this]
  rfl
theorem frL_step {tg : Tg} {body : SM} {x : PV} {xs : List PV} {ρ ρ1 ρ2 : Ev} (h : tg x ρ = some ρ1) (hb : body ρ1 = .nxt ρ2) : frL tg body (x :: xs) ρ = frL tg body xs ρ2 := by
  rw [frL]
  simp only [h, hb]
  rfl
theorem frL_stop {tg : Tg} {body : SM} {x : PV} {xs : List PV} {ρ ρ1 ρ2 : Ev} {r : Ret} (h : tg x ρ = some ρ1) (hb : body ρ1 = .ret r ρ2) : frL tg body (x :: xs) ρ = .ret r ρ2 := by
  rw [frL]
  simp only [h, hb]
  rfl
@[simp] theorem frL_none {tg : Tg} {body : SM} {ρ : Ev} : frL tg body [] ρ = .nxt ρ := (rfl)

structure DS where
  cells : List Int
  p : Int
  h : Int
  s : Int
  c : Int
def DS.mo (d : DS) : MO := .lst [.lst (d.cells.map .int), .int d.p, .int d.h, .int d.s, .int d.c]
/-- what a draw's rest stays below -/
def big : Int := 10 ^ 900
theorem big_eq : big = (10 ^ 60) ^ 15 := by decide +kernel
theorem big_lt : big < 2 ^ 3000 := by decide +kernel
theorem big_gt : 10 ^ 60 < big := by decide +kernel
structure DS.ok (n : Nat) (d : DS) : Prop where
  p0 : 0 ≤ d.p
  h0 : 0 ≤ d.h
  h1 : d.h < big
  s0 : 0 ≤ d.s
  s1 : d.s < 2147483647
  c0 : 0 ≤ d.c
  c1 : d.c ≤ n
theorem mul64 {i j : Int} (hi : i.natAbs < 2 ^ 64) (hj : j.natAbs < 2 ^ 64) : CMulW i j := wide_mul hi hj (by decide) (by decide) (by decide)
theorem pow_a : CPowW 10 18 := by decide
theorem pow_b : CPowW 10 60 := by decide
theorem pow_c : CPowW 1000000000000000000000000000000000000000000000000000000000000 15 := by decide
theorem pow_5 {i : Int} (h : i.natAbs < 2 ^ 64) : CPowW i 5 := by
  refine ⟨by decide, ?_⟩
  have : Builtin.Int.intBits i ≤ 64 := by
    unfold Builtin.Int.intBits
    split
    · omega
    · have := PySem.Flt.log2_lt_of (by decide : 0 < 64) h
      omega
  omega
theorem div_many {i j : Int} (h : 0 < j) (h2 : j < big) : CDivW i j := wide_div (b := 3000) h (by
  have h3 : j < 2 ^ 3000 := Int.lt_trans h2 big_lt
  have h4 : ((j.natAbs : Int)) < ((2 ^ 3000 : Nat) : Int) := by
    rw [Int.natAbs_of_nonneg (by omega)]
    exact_mod_cast h3
  exact_mod_cast h4) (by decide) (by decide)
theorem div_8 {i : Int} : CDivW i 8 := ⟨by decide, by decide⟩
theorem tail_ok {n : Nat} {d : DS} {many : Int} {x : Slot} (h : d.ok n) (hn : n < 10 ^ 15) (hm : 0 < many) (hm2 : many < big) :
    ∃ r d' y z, (seqM q__law_take_7 (seqM q__law_take_11 (seqM q__law_take_12 (seqM q__law_take_13 (seqM q__law_take_14 q__law_take_15))))) [.own true d.mo, .val (.int many), x, .non, .non] = .ret (.v (.int r)) [.own true (DS.mo d'), .val (.int many), x, y, z] ∧ 0 ≤ r ∧ r < many ∧ DS.ok (n + 1) d' := by
  obtain ⟨h1, h2, h3, h4, h5, h6, h7⟩ := h
  have hnn : (n : Int) < 10 ^ 15 := by exact_mod_cast hn
  have hc : d.c < 10 ^ 15 := by omega
  by_cases c1 : 0 < d.h
  · have k : DS.ok (n + 1) { d with h := d.h / many } := ⟨h1, Int.ediv_nonneg h2 (by omega), Int.lt_of_le_of_lt (Int.ediv_le_self _ h2) h3, h4, h5, h6, by show d.c ≤ ((n + 1 : Nat) : Int); omega⟩
    refine ⟨d.h % many, { d with h := d.h / many }, .val (.int (d.h % many)), .non, ?_, Int.emod_nonneg _ (by omega), Int.emod_lt_of_pos _ hm, k⟩
    simp [DS.mo, c1, atI, ixN, hm, div_many hm hm2]
  · have m1 := Int.emod_nonneg (d.s + 40692 * (d.c + 1)) (by decide : (2147483647 : Int) ≠ 0)
    have m2 := Int.emod_lt_of_pos (d.s + 40692 * (d.c + 1)) (by decide : (0 : Int) < 2147483647)
    generalize e1 : (d.s + 40692 * (d.c + 1)) % 2147483647 = u at *
    have m3 := Int.emod_nonneg (u ^ 5) (by decide : (2147483647 : Int) ≠ 0)
    have m4 := Int.emod_lt_of_pos (u ^ 5) (by decide : (0 : Int) < 2147483647)
    have m5 := Int.emod_nonneg (u ^ 5 % 2147483647 * 69621 + (d.c + 1)) (by decide : (2147483629 : Int) ≠ 0)
    have m6 := Int.emod_lt_of_pos (u ^ 5 % 2147483647 * 69621 + (d.c + 1)) (by decide : (0 : Int) < 2147483629)
    have k : DS.ok (n + 1) { d with s := (u ^ 5 % 2147483647 * 69621 + (d.c + 1)) % 2147483629, c := d.c + 1 } := ⟨h1, h2, h3, m5, by show (u ^ 5 % 2147483647 * 69621 + (d.c + 1)) % 2147483629 < 2147483647; omega, by show 0 ≤ d.c + 1; omega, by show d.c + 1 ≤ ((n + 1 : Nat) : Int); omega⟩
    refine ⟨(u ^ 5 % 2147483647 * 69621 + (d.c + 1)) % 2147483629 / 8 % many, _, .non, .val (.int (u ^ 5 % 2147483647)), ?_, Int.emod_nonneg _ (by omega), Int.emod_lt_of_pos _ hm, k⟩
    simp [DS.mo, c1, atI, ixN, hm, e1, mul64 (i := 40692) (j := d.c + 1) (by decide) (by omega), mul64 (i := u ^ 5 % 2147483647) (j := 69621) (by omega) (by decide), pow_5 (i := u) (by omega), div_8]
theorem head_ok {n : Nat} {d : DS} {many : Int} (h : d.ok n) :
    ∃ d' x, q__law_take_1 [.own true d.mo, .val (.int many), .non, .non, .non] = .nxt [.own true (DS.mo d'), .val (.int many), x, .non, .non] ∧ DS.ok n d' := by
  obtain ⟨h1, h2, h3, h4, h5, h6, h7⟩ := h
  by_cases c1 : d.h = 0
  · by_cases c2 : d.p < d.cells.length
    · have c3 : d.p.toNat < d.cells.length := by omega
      obtain ⟨z, hz⟩ : ∃ z, d.cells[d.p.toNat]'c3 = z := ⟨_, rfl⟩
      by_cases c4 : 1000000000000000000 ≤ z
      · have k : DS.ok n { d with p := d.p + 1, h := z % big } := ⟨by show 0 ≤ d.p + 1; omega, Int.emod_nonneg _ (by have := big_gt; omega), Int.emod_lt_of_pos _ (by have := big_gt; omega), h4, h5, h6, h7⟩
        refine ⟨_, .val (.int z), ?_, k⟩
        simp [DS.mo, c1, c2, h1, atI, ixN, hz, c4, pow_a, pow_b, pow_c, c3, big_eq]
      · have k : DS.ok n { d with p := d.p + 1, s := (d.s * 31 + z % 2147483629 + 1) % 2147483647 } := ⟨by show 0 ≤ d.p + 1; omega, h2, h3, Int.emod_nonneg _ (by decide), Int.emod_lt_of_pos _ (by decide), h6, h7⟩
        refine ⟨_, .val (.int z), ?_, k⟩
        simp [DS.mo, c1, c2, h1, atI, ixN, hz, c3, c4, pow_a, mul64 (i := d.s) (j := 31) (by omega) (by decide)]
    · refine ⟨d, .non, ?_, ⟨h1, h2, h3, h4, h5, h6, h7⟩⟩
      simp [DS.mo, c1, c2, atI, ixN]
  · refine ⟨d, .non, ?_, ⟨h1, h2, h3, h4, h5, h6, h7⟩⟩
    simp [DS.mo, c1, atI, ixN]
theorem take_ok {n : Nat} {d : DS} {many : Int} (h : d.ok n) (hn : n < 10 ^ 15) (hm : 0 < many) (hm2 : many < big) :
    ∃ r d', m__law_take [.own true d.mo, .val (.int many)] = .ok (.v (.int r)) [.own true (DS.mo d'), .val (.int many)] ∧ 0 ≤ r ∧ r < many ∧ DS.ok (n + 1) d' := by
  obtain ⟨d1, x, e1, k1⟩ := head_ok (many := many) h
  obtain ⟨r, d2, y, z, e2, r0, r1, k2⟩ := tail_ok (x := x) k1 hn hm hm2
  refine ⟨r, d2, ?_, r0, r1, k2⟩
  rw [em__law_take]
  rw [ev_seq] at e2
  simp only [List.length_cons, List.length_nil, if_true, enter, ev_seq]
  rw [show [Slot.own true d.mo, Slot.val (.int many)] ++ List.replicate (5 - (0 + 1 + 1)) Slot.non = [.own true d.mo, .val (.int many), .non, .non, .non] from rfl, e1, seq_nxt, ev_seq, e2]
  simp

theorem DS.ok.mono {n m : Nat} {d : DS} (h : d.ok n) (k : n ≤ m) : d.ok m := ⟨h.p0, h.h0, h.h1, h.s0, h.s1, h.c0, by have := h.c1; omega⟩
theorem lt_big {i : Int} (h : i < 10 ^ 60) : i < big := Int.lt_trans h big_gt
theorem lt_bigS {i : Int} (h : i < 1000000) : i < big := lt_big (Int.lt_trans h (by decide))
theorem cut63 (ns : List Int) : cutP (ns.map PV.int) none (some 63) = (ns.take 63).map PV.int := by
  unfold cutP
  rw [HT.sIx_none, show (some (63 : Int)) = some ((63 : Nat) : Int) from rfl, HT.sIx_nat, List.drop_zero, Nat.sub_zero, ← List.map_take]
  congr 1
  rw [List.length_map, Nat.min_comm, List.take_eq_take_iff]
  omega
def d0 (ns : List Int) : DS := ⟨ns.take 63, 0, 0, 1, 0⟩
theorem d0_ok (ns : List Int) : (d0 ns).ok 0 := ⟨Int.le_refl 0, Int.le_refl 0, Int.lt_trans (by decide : (0 : Int) < 10 ^ 60) big_gt, (by decide : (0 : Int) ≤ 1), (by decide : (1 : Int) < 2147483647), Int.le_refl 0, Int.le_refl 0⟩
theorem begin_ok (ns : List Int) : m__law_begin [.val (.lst (ns.map PV.int))] = .ok (.o (d0 ns).mo) [.val (.lst (ns.map PV.int))] := by
  rw [em__law_begin]
  have : 5 ≤ sizeLine := by rw [sizeLine_eq]; decide
  simp [enter, pySl, cut63, this, d0, DS.mo]

theorem pow_d : CPowW 10 30 := by decide
theorem mul_d : CMulW 2 1000000000000000000000000000000 := by decide
theorem number_ok {n : Nat} {d : DS} (h : d.ok n) (hn : n + 10 < 10 ^ 15) : ∃ i d', m__law_number [.own true d.mo] = .ok (.v (.int i)) [.own true (DS.mo d')] ∧ DS.ok (n + 2) d' := by
  obtain ⟨r, d1, e1, r0, r1, k1⟩ := take_ok (many := 8) h (by omega) (by decide) (lt_big (by decide))
  rw [em__law_number]
  by_cases c7 : r = 7
  · obtain ⟨r2, d2, e2, _, _, k2⟩ := take_ok (many := 1999999999999999999999999999901) k1 (by omega) (by decide) (lt_big (by decide))
    refine ⟨r2 - 1000000000000000000000000000000 + 50, d2, ?_, k2⟩
    simp [enter, e1, c7, pow_d, mul_d, e2]
  · by_cases c6 : r = 6
    · obtain ⟨r2, d2, e2, _, _, k2⟩ := take_ok (many := 2001) k1 (by omega) (by decide) (lt_big (by decide))
      refine ⟨r2 - 1000, d2, ?_, k2⟩
      simp [enter, e1, c6, e2]
    · obtain ⟨r2, d2, e2, _, _, k2⟩ := take_ok (many := 7) k1 (by omega) (by decide) (lt_big (by decide))
      refine ⟨r2 - 2, d2, ?_, k2⟩
      simp [enter, e1, c6, c7, e2]

def chars94 : Str := ((" !\"#$&'()*+,-./0123456789:;<=>?@ABCDEFGHIJKLMNOPQRSTUVWXYZ[\\]^_`" : Str) ++ ("abcdefghijklmnopqrstuvwxyz{|}~" : Str))
theorem chars_len : (L chars94).length = 94 := by decide +kernel
theorem chars_ok : m__law_chars [] = .ok (.v (.str chars94)) [] := by
  rw [em__law_chars]
  have h : (" !\"#$&'()*+,-./0123456789:;<=>?@ABCDEFGHIJKLMNOPQRSTUVWXYZ[\\]^_`" : Str).length + ("abcdefghijklmnopqrstuvwxyz{|}~" : Str).length ≤ sizeLine := by decide +kernel
  simp [enter, h, chars94]
/-- a text of the law: n signs of the 94 at most -/
structure TxOk (n : Nat) (s : Str) : Prop where
  len : (L s).length ≤ n
  all : ∀ c ∈ L s, c ∈ L chars94
theorem small_len {s : Str} {n : Nat} (h : (L s).length ≤ n) (hn : n ≤ 16777216) : s.length ≤ sizeLine := by
  rw [L_len]
  have : sizeLine = 16777216 := sizeLine_eq
  omega
theorem text_loop {n : Nat} {d : DS} {s : Str} {k : Nat} (hs : ∀ c ∈ L s, c ∈ L chars94) (hl : (L s).length ≤ 94) (h0 : 0 < (L s).length) (hk : k ≤ 40) (h : d.ok n) (hn : n + 60 < 10 ^ 15) (v : PV) :
    ∃ t d', TxOk k t ∧ DS.ok (n + k) d' ∧ (strM sJoin (cst (.str "")) (argV (frz (cmpM [3] (itR1 (cst (.int k))) (tgN 3) noT (binN pyIx 1 (callE m__law_take (argN 0 (argV (callB bLen (argN 1 argNil)) argNil)))))) argNil)) [.own true d.mo, .val (.str s), .val v, .non] =
      .ok (.str t) [.own true (DS.mo d'), .val (.str s), .val v, .non] := by
  have hsz : s.length ≤ sizeLine := small_len hl (by decide)
  have sz : sizeLine = 16777216 := sizeLine_eq
  have st := cmpL_map (vs := [3]) (tg := tgN 3) (e := binN pyIx 1 (callE m__law_take (argN 0 (argV (callB bLen (argN 1 argNil)) argNil))))
    (fun xs acc ρ => ∃ (cs : List Nat) (d' : DS), ρ = [.own true (DS.mo d'), .val (.str s), .val v, .non] ∧ acc = chs cs ∧ (∀ c ∈ cs, c ∈ L chars94) ∧ cs.length + xs.length = k ∧ DS.ok (n + cs.length) d') ?_ (rng 0 k) [] _ ⟨[], d, rfl, rfl, (fun c h => by cases h), (by rw [rng_len]; simp), h⟩
  · obtain ⟨ys, ρ', e, cs, d', rfl, rfl, hc, hlen, hd⟩ := st
    simp only [List.length_nil, Nat.add_zero] at hlen
    subst hlen
    refine ⟨⟨cs.toArray⟩, d', ⟨by simp, hc⟩, hd, ?_⟩
    have ok : okR (cs.length : Int) = true := okR_small (by omega) (by omega)
    simp [ok, e, join_chs (cs := cs) (by omega)]
  · rintro x xs acc ρ ⟨cs, d', rfl, rfl, hc, hlen, hd⟩
    simp only [List.length_cons] at hlen
    obtain ⟨r, d2, e2, r0, r1, k2⟩ := take_ok (many := (s.length : Int)) hd (by omega) (by rw [L_len]; omega) (lt_bigS (by rw [L_len]; omega))
    obtain ⟨c, hcs, ec⟩ := ix_sign hsz r0 r1
    refine ⟨[.own true (DS.mo d'), .val (.str s), .val v, .val x], .str ⟨#[c]⟩, [.own true (DS.mo d2), .val (.str s), .val v, .val x], by simp, ?_, ?_, cs ++ [c], d2, by simp, chs_snoc _ _, ?_, ?_, ?_⟩
    · simp [hsz, e2, ec]
    · simp; omega
    · intro c' h'
      rcases List.mem_append.mp h' with h' | h'
      · exact hc c' h'
      · rw [List.mem_singleton] at h'; rw [h']; exact hs c hcs
    · simp; omega
    · simpa [Nat.add_assoc] using k2
theorem text_ok {n : Nat} {d : DS} (h : d.ok n) (hn : n + 100 < 10 ^ 15) : ∃ t d', m__law_text [.own true d.mo] = .ok (.v (.str t)) [.own true (DS.mo d')] ∧ TxOk 40 t ∧ DS.ok (n + 50) d' := by
  obtain ⟨r, d1, e1, r0, r1, k1⟩ := take_ok (many := 4) h (by omega) (by decide) (lt_big (by decide))
  obtain ⟨q, d2, e2, q0, q1, k2⟩ := take_ok (many := 6) k1 (by omega) (by decide) (lt_big (by decide))
  rw [em__law_text]
  by_cases c : q = 5
  · obtain ⟨u, d3, e3, u0, u1, k3⟩ := take_ok (many := 39) k2 (by omega) (by decide) (lt_big (by decide))
    obtain ⟨u, rfl⟩ := Int.eq_ofNat_of_zero_le u0
    obtain ⟨t, d4, ht, k4, e4⟩ := text_loop (s := chars94) (k := u) (fun _ h => h) (by rw [chars_len]; omega) (by rw [chars_len]; omega) (by omega) k3 (by omega) (.int u)
    refine ⟨t, d4, ?_, ⟨by have := ht.len; omega, ht.all⟩, k4.mono (by omega)⟩
    simp at e4
    simp [enter, e1, e2, c, e3, chars_ok]
    rw [e4]
    simp
  · obtain ⟨r, rfl⟩ := Int.eq_ofNat_of_zero_le r0
    obtain ⟨t, d4, ht, k4, e4⟩ := text_loop (s := (" a~b" : Str)) (k := r) (by decide +kernel) (by decide +kernel) (by decide +kernel) (by omega) k2 (by omega) (.int r)
    refine ⟨t, d4, ?_, ⟨by have := ht.len; omega, ht.all⟩, k4.mono (by omega)⟩
    simp at e4
    simp [enter, e1, e2, c]
    rw [e4]
    simp


theorem in_sign {c : Nat} {s : Str} : pyNotIn (.str ⟨#[c]⟩) (.str s) = some (.bl (!decide (c ∈ L s))) := by
  unfold pyNotIn inQ
  simp [L]

/-! ### the program's names and kinds -/
def letters : Str := "abcdefghijklmnopqrstuvwxyz"
def digits : Str := "0123456789"
def kept : List Str := ["and", "or", "not", "sure", "in", "is", "empty", "begins", "always", "never"]
theorem kept_is : c_KEPT_WORDS = kept.map PV.str := (rfl)
theorem kept_uni : ∀ s ∈ kept, Uni s := by
  show ∀ s ∈ kept, ∀ c ∈ L s, c < 1114112
  decide +kernel
theorem chars_is : ∀ c, c ∈ L c_CHARS ↔ c ∈ L chars94 := by
  have : L c_CHARS = L chars94 := by decide +kernel
  intro c
  rw [this]
/-- a string that may be asked -/
structure StOk (s : Str) : Prop where
  len : (L s).length ≤ 1000
  uni : Uni s
theorem StOk.sz {s : Str} (h : StOk s) : s.length ≤ sizeLine := small_len h.len (by decide)
theorem chars_uni : ∀ c ∈ L chars94, c < 1114112 := by decide +kernel
theorem TxOk.st {n : Nat} {s : Str} (h : TxOk n s) (hn : n ≤ 1000) : StOk s := ⟨by have := h.len; omega, fun c hc => chars_uni c (h.all c hc)⟩
def isTextB (s : Str) : Bool := (L s).all fun c => decide (c ∈ L chars94)
def nameB (s : Str) : Bool := decide (1 ≤ (L s).length) && decide ((L s).length ≤ 8) && ((L s).headD 0 ∈ L letters) && !decide (s ∈ kept) && ((L s).all fun c => decide (c ∈ L letters) || decide (c ∈ L digits))
def isText : PV → Bool
  | .str s => isTextB s
  | _ => false
def isName : PV → Bool
  | .str s => nameB s
  | _ => false
def isInt : PV → Bool
  | .int _ => true
  | _ => false
/-- a thing that may be asked: its texts are real -/
def Ask (v : PV) : Prop := ∀ s, v = .str s → StOk s
theorem p_istext {v : PV} (h : Ask v) : m_is_text [.val v] = .ok (.v (.bl (isText v))) [.val v] := by
  rw [em_is_text]
  cases v with
  | str s =>
    have st := all_signs (tg := tgN 1) (body := q_is_text_4) (fun c => decide (c ∈ L chars94)) (fun ρ => ∃ x, ρ = [.val (.str s), x] ∧ mp (some x) = true) (.v (.bl false)) ?_ ?_ (L s) [.val (.str s), .non] ⟨_, rfl, rfl⟩
    · obtain ⟨ρ2, ⟨x, rfl, hx⟩, e⟩ := st
      cases hb : (L s).all fun c => decide (c ∈ L chars94) with
      | true => simp [enter, chrs_is, e, isText, isTextB, hb]
      | false => simp [enter, chrs_is, e, isText, isTextB, hb]
    · rintro c ρ ⟨y, rfl, hy⟩ hx
      have hc := of_decide_eq_false hx
      exact ⟨[.val (.str s), .val (.str ⟨#[c]⟩)], [.val (.str s), .val (.str ⟨#[c]⟩)], by simp [hy], by simp [chars_is, hc], _, rfl, rfl⟩
    · rintro c ρ ⟨y, rfl, hy⟩ hx
      have hc := of_decide_eq_true hx
      exact ⟨[.val (.str s), .val (.str ⟨#[c]⟩)], [.val (.str s), .val (.str ⟨#[c]⟩)], by simp [hy], by simp [chars_is, hc], _, rfl, rfl⟩
  | _ => simp [enter, isText, isTy]
/-- the first sign -/
theorem ix0 {s : Str} {c : Nat} {r : List Nat} (hs : s.length ≤ sizeLine) (h : L s = c :: r) : pyIx (.str s) (.int 0) = some (.str ⟨#[c]⟩) := by
  rw [TR.ix_str, if_pos hs]
  have : s.cps.toList = c :: r := h
  rw [this]
  unfold atI ixN
  simp
theorem p_isname {v : PV} (h : Ask v) : m_is_name [.val v] = .ok (.v (.bl (isName v))) [.val v] := by
  rw [em_is_name]
  cases v with
  | str s =>
    have hs := h s rfl
    have sz := hs.sz
    have sl := L_len s
    have st := all_signs (tg := tgN 1) (body := q_is_name_6) (fun c => decide (c ∈ L letters) || decide (c ∈ L digits)) (fun ρ => ∃ x, ρ = [.val (.str s), x] ∧ mp (some x) = true) (.v (.bl false)) ?_ ?_ (L s) [.val (.str s), .non] ⟨_, rfl, rfl⟩
    · obtain ⟨ρ2, ⟨x, rfl, hx⟩, e⟩ := st
      by_cases c1 : 1 ≤ (L s).length
      · by_cases c2 : (L s).length ≤ 8
        · obtain ⟨c, r, hc⟩ : ∃ c r, L s = c :: r := by
            cases q : L s with
            | nil => rw [q] at c1; simp at c1
            | cons c r => exact ⟨c, r, rfl⟩
          have hi := ix0 sz hc
          have k1 : (1 : Int) ≤ (s.length : Int) := by omega
          have k2 : (s.length : Int) ≤ 8 := by omega
          have hk := in_tup hs.uni kept_uni
          rw [← kept_is] at hk
          have hl : L c_LETTERS = L letters := rfl
          have h0 : (L s).headD 0 = c := by rw [hc]; rfl
          by_cases c3 : c ∈ L letters
          · by_cases c4 : s ∈ kept
            · have : nameB s = false := by unfold nameB; simp [c4]
              simp [enter, isName, this, sz, k1, k2, hi, hk, hl, c3, c4]
            · cases hb : (L s).all fun c => decide (c ∈ L letters) || decide (c ∈ L digits) with
              | true =>
                have : nameB s = true := by unfold nameB; rw [hb, h0]; simp [c1, c2, c4, c3]
                simp [enter, isName, this, sz, k1, k2, hi, hk, hl, c3, c4, chrs_is, e, hb]
              | false =>
                have : nameB s = false := by unfold nameB; rw [hb]; simp
                simp [enter, isName, this, sz, k1, k2, hi, hk, hl, c3, c4, chrs_is, e, hb]
          · have : nameB s = false := by unfold nameB; rw [h0]; simp [c3]
            simp [enter, isName, this, sz, k1, k2, hi, hk, hl, c3]
        · have k1 : (1 : Int) ≤ (s.length : Int) := by omega
          have k2 : ¬ (s.length : Int) ≤ 8 := by omega
          have : nameB s = false := by unfold nameB; simp [c2]
          simp [enter, isName, this, sz, k1, k2]
      · have k1 : ¬ (1 : Int) ≤ (s.length : Int) := by omega
        have : nameB s = false := by unfold nameB; simp [c1]
        simp [enter, isName, this, sz, k1]
    · rintro c ρ ⟨y, rfl, hy⟩ hx
      rw [Bool.or_eq_false_iff] at hx
      have h1 : ¬ c ∈ L c_LETTERS := of_decide_eq_false hx.1
      have h2 : ¬ c ∈ L c_DIGITS := of_decide_eq_false hx.2
      exact ⟨[.val (.str s), .val (.str ⟨#[c]⟩)], [.val (.str s), .val (.str ⟨#[c]⟩)], by simp [hy], by simp [h1, h2], _, rfl, rfl⟩
    · rintro c ρ ⟨y, rfl, hy⟩ hx
      refine ⟨[.val (.str s), .val (.str ⟨#[c]⟩)], [.val (.str s), .val (.str ⟨#[c]⟩)], by simp [hy], ?_, _, rfl, rfl⟩
      rw [Bool.or_eq_true, decide_eq_true_eq, decide_eq_true_eq] at hx
      by_cases h1 : c ∈ L c_LETTERS
      · simp [h1]
      · have h2 : c ∈ L c_DIGITS := hx.resolve_left h1
        simp [h1, h2]
  | _ => simp [enter, isName, isTy]

/-! ### the law's names -/
def signs36 : Str := Str.ofString "abcdefghijklmnopqrstuvwxyz" ++ Str.ofString "0123456789"
structure Nm (n : Nat) (t : Str) : Prop where
  lo : 1 ≤ (L t).length
  hi : (L t).length ≤ n
  hd : (L t).headD 0 ∈ L letters
  all : ∀ c ∈ L t, c ∈ L letters ∨ c ∈ L digits
theorem Nm.name {t : Str} (h : Nm 8 t) (hk : t ∉ kept) : isName (.str t) = true := by
  show nameB t = true
  unfold nameB
  have h1 := h.lo
  have h2 := h.hi
  have h3 := h.hd
  have h4 : ((L t).all fun c => decide (c ∈ L letters) || decide (c ∈ L digits)) = true := by
    rw [List.all_eq_true]
    intro c hc
    have := h.all c hc
    simpa using this
  rw [h4]
  simp [h1, h2, hk]
  simpa using h3
theorem sg_small : (∀ c ∈ L letters, c < 128) ∧ ∀ c ∈ L digits, c < 128 := by decide +kernel
theorem Nm.uni {n : Nat} {t : Str} (h : Nm n t) : Uni t := fun c hc => by
  rcases h.all c hc with z | z
  · have := sg_small.1 c z
    omega
  · have := sg_small.2 c z
    omega
theorem Nm.snoc {n : Nat} {s : Str} {c : Nat} (h : Nm n s) (hc : c ∈ L signs36) : Nm (n + 1) (s ++ ⟨#[c]⟩) := by
  have h1 := h.lo
  have h2 := h.hi
  have hl : L (s ++ ⟨#[c]⟩) = L s ++ [c] := L_app s ⟨#[c]⟩
  refine ⟨?_, ?_, ?_, fun x hx => ?_⟩
  · rw [hl, List.length_append]; omega
  · rw [hl, List.length_append]; show _ + 1 ≤ _; omega
  · have h3 := h.hd
    rw [hl]
    cases q : L s with
    | nil => rw [q] at h1; simp at h1
    | cons a r => rw [q] at h3; exact h3
  · rw [hl] at hx
    rcases List.mem_append.mp hx with hx | hx
    · exact h.all x hx
    · rw [List.mem_singleton] at hx
      subst hx
      have e : L signs36 = L letters ++ L digits := L_app _ _
      rw [e] at hc
      exact List.mem_append.mp hc
theorem Nm.cut {n : Nat} {t : Str} (h : Nm n t) : Nm 6 (cutS t none (some 6)) := by
  have e := cut_upto t 6
  have e' : L (cutS t none (some 6)) = (L t).take 6 := e
  have h1 := h.lo
  refine ⟨?_, ?_, ?_, fun x hx => ?_⟩
  · rw [e', List.length_take]; omega
  · rw [e', List.length_take]; omega
  · rw [e']
    have h3 := h.hd
    cases q : L t with
    | nil => rw [q] at h1; simp at h1
    | cons a r => rw [q] at h3; exact h3
  · rw [e'] at hx
    exact h.all x (List.mem_of_mem_take hx)
def RNm (N : Nat) (v : Slot) (xs : List PV) (ρ : Ev) : Prop := ∃ d t x k n, ρ = [.own true (DS.mo d), v, .val (.str letters), .val (.str signs36), .val (.str t), x, .non] ∧ mp (some x) = true ∧ Nm (k + 1) t ∧ k + xs.length ≤ 7 ∧ d.ok n ∧ n + 10 * xs.length ≤ N
def QNm (N : Nat) (v : Slot) (so : SO) : Prop := ∃ d t x, so = .nxt [.own true (DS.mo d), v, .val (.str letters), .val (.str signs36), .val (.str t), x, .non] ∧ mp (some x) = true ∧ Nm 8 t ∧ d.ok N
theorem letters_len : (L letters).length = 26 := by decide +kernel
theorem signs36_len : (L signs36).length = 36 := by decide +kernel
theorem nm_loop {N : Nat} (hN : N < 10 ^ 15) (v : Slot) (xs : List PV) (ρ : Ev) (h : RNm N v xs ρ) : QNm N v (frL (tgN 5) q__law_name_5 xs ρ) := by
  have ssz := sizeLine_eq
  refine frL_rule (RNm N v) (QNm N v) ?_ ?_ xs ρ h
  · rintro x xs ρ ⟨d, t, x5, k, n, rfl, h4, ht, hk, hd, hn⟩
    simp only [List.length_cons] at hk hn
    have tl := ht.hi
    have oz : signs36.length ≤ sizeLine := small_len (n := 36) (by rw [signs36_len]; exact Nat.le_refl _) (by decide)
    obtain ⟨q, d2, e2, q0, q1, k2⟩ := take_ok (many := 36) hd (by omega) (by decide) (lt_bigS (by decide))
    obtain ⟨c, hc, ec⟩ := ix_sign (s := signs36) (i := q) oz q0 (by rw [signs36_len]; exact q1)
    have l1 : t.length + (⟨#[c]⟩ : Str).length ≤ sizeLine := by
      show (L t).length + 1 ≤ _
      omega
    refine ⟨[.own true (DS.mo d), v, .val (.str letters), .val (.str signs36), .val (.str t), .val x, .non], by simp [h4], .inl ⟨_, .inl (by simp [e2, ec, l1]; rfl), d2, _, _, k + 1, n + 1, rfl, rfl, ht.snoc hc, by omega, k2, by omega⟩⟩
  · rintro ρ ⟨d, t, x4, k, n, rfl, h4, ht, hk, hd, hn⟩
    exact ⟨d, t, x4, rfl, h4, ⟨ht.lo, by have := ht.hi; omega, ht.hd, ht.all⟩, hd.mono (by omega)⟩
def TkS (s : Slot) (ns : List Str) : Prop := s = .own true (.lst (ns.map .str)) ∨ s = .own false (.lst (ns.map .str)) ∨ s = .val (.lst (ns.map .str))
theorem kept_nodig : ∀ s ∈ kept, ∀ c ∈ L s, c ∉ L digits := by decide +kernel
def dg (k : Nat) : Str := Str.ofString (Int.repr k)
theorem dg_nodup : ((List.range 60).map fun k => L (dg k)).Nodup := by decide +kernel
theorem dg_len : ∀ k ∈ List.range 60, 1 ≤ (L (dg k)).length ∧ (L (dg k)).length ≤ 2 := by decide +kernel
theorem dg_all : ∀ k ∈ List.range 60, ∀ c ∈ L (dg k), c ∈ L digits := by decide +kernel
theorem Nm.dg {u : Str} {k : Nat} (h : Nm 6 u) (hk : k < 60) : Nm 8 (u ++ dg k) := by
  have hm : k ∈ List.range 60 := List.mem_range.mpr hk
  have h1 := dg_len k hm
  have h2 := dg_all k hm
  have hl : L (u ++ Gk.dg k) = L u ++ L (Gk.dg k) := L_app _ _
  have a1 := h.lo
  have a2 := h.hi
  refine ⟨by rw [hl, List.length_append]; omega, by rw [hl, List.length_append]; omega, ?_, fun x hx => ?_⟩
  · have h3 := h.hd
    rw [hl]
    cases q : L u with
    | nil => rw [q] at a1; simp at a1
    | cons a r => rw [q] at h3; exact h3
  · rw [hl] at hx
    rcases List.mem_append.mp hx with hx | hx
    · exact h.all x hx
    · exact .inr (h2 x hx)
theorem dg_nk {u : Str} {k : Nat} (hk : k < 60) : u ++ dg k ∉ kept := fun z => by
  have hm : k ∈ List.range 60 := List.mem_range.mpr hk
  have h1 := dg_len k hm
  have h2 := dg_all k hm
  have h3 := kept_nodig _ z
  rw [L_app] at h3
  cases q : L (dg k) with
  | nil => rw [q] at h1; simp at h1
  | cons a r =>
    rw [q] at h2 h3
    exact h3 a (List.mem_append_right _ List.mem_cons_self) (h2 a List.mem_cons_self)
theorem nodup_le {α : Type} [DecidableEq α] : ∀ {l ns : List α}, l.Nodup → (∀ x ∈ l, x ∈ ns) → l.length ≤ ns.length
  | [], _, _, _ => Nat.zero_le _
  | a :: l, ns, nd, h => by
    rw [List.nodup_cons] at nd
    have ha := h a List.mem_cons_self
    have := nodup_le (l := l) (ns := ns.erase a) nd.2 fun x hx => by
      have : x ≠ a := fun e => nd.1 (e ▸ hx)
      exact (List.mem_erase_of_ne this).mpr (h x (List.mem_cons_of_mem _ hx))
    rw [List.length_erase_of_mem ha] at this
    have hp := List.length_pos_of_mem ha
    simp only [List.length_cons]
    omega
theorem dg_free {u : Str} {ns : List Str} (h : ns.length < 60) : ∃ k < 60, u ++ dg k ∉ ns := by
  refine Classical.byContradiction fun hh => ?_
  have ha : ∀ k < 60, u ++ dg k ∈ ns := fun k hk => Classical.byContradiction fun z => hh ⟨k, hk, z⟩
  have nd : ((List.range 60).map fun k => u ++ dg k).Nodup := by
    have q := dg_nodup
    unfold List.Nodup at q ⊢
    rw [List.pairwise_map] at q ⊢
    refine q.imp fun {a b} hn e => hn ?_
    have e2 : L (u ++ dg a) = L (u ++ dg b) := by rw [e]
    rw [L_app, L_app] at e2
    exact List.append_cancel_left e2
  have := nodup_le nd fun x hx => by
    obtain ⟨k, hk, rfl⟩ := List.mem_map.mp hx
    exact ha k (List.mem_range.mp hk)
  rw [List.length_map, List.length_range] at this
  omega
theorem cut_loop {d : DS} {s : Slot} {ns : List Str} {u : Str} (hs : TkS s ns) (hn : ∀ t ∈ ns, Uni t) (hu : Nm 6 u) : ∀ (m j : Nat) (x : Slot), j + m = 60 → mp (some x) = true → (∃ k, j ≤ k ∧ k < 60 ∧ u ++ dg k ∉ ns) → ∃ k, k < 60 ∧ u ++ dg k ∉ ns ∧
    frL (tgN 5) q__law_name_10 (rng j m) [.own true (DS.mo d), s, .val (.str letters), .val (.str signs36), .val (.str u), x, .own false (.lst (kept.map .str))] =
      .ret (.v (.str (u ++ dg k))) [.own true (DS.mo d), s, .val (.str letters), .val (.str signs36), .val (.str u), .val (.int k), .own false (.lst (kept.map .str))]
  | 0, j, x, h, hx, ⟨k, h1, h2, _⟩ => by omega
  | m + 1, j, x, h, hx, ⟨k, h1, h2, h3⟩ => by
    have hj : j < 60 := by omega
    have nm := hu.dg hj
    have hm : j ∈ List.range 60 := List.mem_range.mpr hj
    have h4 := dg_len j hm
    have h5 := hu.hi
    have lu : u.length + (dg j).length ≤ sizeLine := by
      rw [sizeLine_eq]
      show (L u).length + (L (dg j)).length ≤ _
      omega
    have lg : j.log2 < 1920 := Nat.lt_of_le_of_lt (Nat.log2_le_self j) (by omega)
    have hnot : pyNotIn (.str (u ++ dg j)) (.lst (ns.map .str)) = some (.bl (!decide (u ++ dg j ∈ ns))) := by
      unfold pyNotIn
      rw [inQ_lst nm.uni hn]
      rfl
    have ed : Str.ofString (Int.repr j) = dg j := rfl
    rw [show rng (j : Int) (m + 1) = .int j :: rng ((j : Int) + 1) m from rfl]
    by_cases c : u ++ dg j ∈ ns
    · have hk : j ≠ k := fun e => h3 (e ▸ c)
      obtain ⟨k2, q1, q2, q3⟩ := cut_loop (d := d) hs hn hu m (j + 1) (.val (.int j)) (by omega) rfl ⟨k, by omega, h2, h3⟩
      refine ⟨k2, q1, q2, ?_⟩
      rw [← q3]
      have b : q__law_name_10 [.own true (DS.mo d), s, .val (.str letters), .val (.str signs36), .val (.str u), .val (.int j), .own false (.lst (kept.map .str))] = .nxt [.own true (DS.mo d), s, .val (.str letters), .val (.str signs36), .val (.str u), .val (.int j), .own false (.lst (kept.map .str))] := by
        rcases hs with rfl | rfl | rfl <;> simp [-List.map_cons, lg, ed, lu, hnot, c]
      exact frL_step (by simp [hx]) b
    · refine ⟨j, hj, c, ?_⟩
      have b : q__law_name_10 [.own true (DS.mo d), s, .val (.str letters), .val (.str signs36), .val (.str u), .val (.int j), .own false (.lst (kept.map .str))] = .ret (.v (.str (u ++ dg j))) [.own true (DS.mo d), s, .val (.str letters), .val (.str signs36), .val (.str u), .val (.int j), .own false (.lst (kept.map .str))] := by
        rcases hs with rfl | rfl | rfl <;> simp [-List.map_cons, lg, ed, lu, hnot, c]
      exact frL_stop (by simp [hx]) b
/-- a name of the law: fine, and none of those taken -/
theorem name_ok {n : Nat} {d : DS} {s : Slot} {ns : List Str} (h : d.ok n) (hn : n + 200 < 10 ^ 15) (hs : TkS s ns) (ht : ∀ t ∈ ns, Uni t) (hl : ns.length < 60) : ∃ t d', m__law_name [.own true d.mo, s] = .ok (.v (.str t)) [.own true (DS.mo d'), s] ∧ Nm 8 t ∧ t ∉ kept ∧ t ∉ ns ∧ DS.ok (n + 100) d' := by
  obtain ⟨r, d1, e1, r0, r1, k1⟩ := take_ok (many := 26) h (by omega) (by decide) (lt_bigS (by decide))
  have oz : letters.length ≤ sizeLine := small_len (n := 26) (by rw [letters_len]; exact Nat.le_refl _) (by decide)
  obtain ⟨c, hc, ec⟩ := ix_sign (s := letters) (i := r) oz r0 (by rw [letters_len]; exact r1)
  obtain ⟨q, d2, e2, q0, q1, k2⟩ := take_ok (many := 8) k1 (by omega) (by decide) (lt_bigS (by decide))
  have ok : okR q = true := okR_small (by omega) (by omega)
  obtain ⟨d3, t, x5, e3, h5, htt, k3⟩ := nm_loop (N := n + 100) (by omega) s (rng 0 q.toNat) _ ⟨d2, ⟨#[c]⟩, .non, 0, n + 1 + 1, rfl, rfl, ⟨by show 1 ≤ 1; omega, by show 1 ≤ 1; omega, hc, fun x hx => by
    rw [show L (⟨#[c]⟩ : Str) = [c] from rfl, List.mem_singleton] at hx
    rw [hx]; exact .inl hc⟩, by rw [rng_len]; omega, k2, by rw [rng_len]; omega⟩
  have el : Str.ofString "abcdefghijklmnopqrstuvwxyz" = letters := rfl
  have es : letters ++ Str.ofString "0123456789" = signs36 := rfl
  have lz : letters.length + (Str.ofString "0123456789").length ≤ sizeLine := by rw [sizeLine_eq]; decide +kernel
  have kl : ([.str (Str.ofString "and"), .str (Str.ofString "or"), .str (Str.ofString "not"), .str (Str.ofString "sure"), .str (Str.ofString "in"), .str (Str.ofString "is"), .str (Str.ofString "empty"), .str (Str.ofString "begins"), .str (Str.ofString "always"), .str (Str.ofString "never")] : List PV) = kept.map PV.str := rfl
  have ten : kept.length ≤ sizeLine := by rw [sizeLine_eq]; decide
  have hk := in_lst htt.uni kept_uni
  have hin := in_lst htt.uni ht
  have cutc : ∀ (hcc : t ∈ kept ∨ t ∈ ns), ∃ t' d', m__law_name [.own true d.mo, s] = .ok (.v (.str t')) [.own true (DS.mo d'), s] ∧ Nm 8 t' ∧ t' ∉ kept ∧ t' ∉ ns ∧ DS.ok (n + 100) d' := by
    intro hcc
    have hcut := htt.cut
    have tz : t.length ≤ sizeLine := small_len (n := 8) htt.hi (by decide)
    generalize hu : cutS t none (some 6) = u at hcut
    have o60 : okR 60 = true := okR_small (by omega) (by omega)
    obtain ⟨kk, k0, k1⟩ := dg_free (u := u) hl
    obtain ⟨k, g1, g2, g3⟩ := cut_loop (d := d3) hs ht hcut 60 0 x5 rfl h5 ⟨kk, Nat.zero_le _, k0, k1⟩
    have g3' : frL (tgN 5) q__law_name_10 (rng 0 60) [.own true (DS.mo d3), s, .val (.str letters), .val (.str signs36), .val (.str u), x5, .own false (.lst (kept.map .str))] = _ := g3
    refine ⟨u ++ dg k, d3, ?_, hcut.dg g1, dg_nk g1, g2, k3⟩
    rw [em__law_name]
    by_cases c4 : t ∈ kept
    · rcases hs with rfl | rfl | rfl <;> simp [-List.map_cons, enter, el, es, lz, e1, ec, e2, ok, e3, kl, ten, hk, c4, pySl, tz, hu, o60, g3']
    · have c5 : t ∈ ns := hcc.resolve_left c4
      rcases hs with rfl | rfl | rfl <;> simp [-List.map_cons, enter, el, es, lz, e1, ec, e2, ok, e3, kl, ten, hk, c4, hin, c5, pySl, tz, hu, o60, g3']
  by_cases c4 : t ∈ kept
  · exact cutc (.inl c4)
  · by_cases c5 : t ∈ ns
    · exact cutc (.inr c5)
    · refine ⟨t, d3, ?_, htt, c4, c5, k3⟩
      rw [em__law_name]
      rcases hs with rfl | rfl | rfl <;> simp [-List.map_cons, enter, el, es, lz, e1, ec, e2, ok, e3, kl, ten, hk, c4, hin, c5]
end Gk

set_option Elab.async false
set_option linter.all false
set_option maxRecDepth 100000
namespace Gk
open PySem PySem.Spec L2 TR
set_option autoImplicit false
/-! ### the law's columns -/
def kdS (b : Bool) : Str := if b then Str.ofString "text" else Str.ofString "number"
/-- a column: its name, whether of texts, whether filled -/
abbrev Col := Str × Bool × Bool
def colP (c : Col) : PV := .tup [.str c.1, .str (kdS c.2.1), .bl c.2.2]
structure ColsOk (cs : List Col) : Prop where
  nm : ∀ c ∈ cs, Nm 8 c.1
  nk : ∀ c ∈ cs, c.1 ∉ kept
  nd : (cs.map (·.1)).Nodup
theorem ColsOk.nil : ColsOk [] := ⟨(fun _ h => by cases h), (fun _ h => by cases h), List.nodup_nil⟩
theorem ColsOk.snoc {cs : List Col} (h : ColsOk cs) {c : Col} (h1 : Nm 8 c.1) (h2 : c.1 ∉ kept) (h3 : c.1 ∉ cs.map (·.1)) : ColsOk (cs ++ [c]) := by
  refine ⟨fun x hx => ?_, fun x hx => ?_, ?_⟩
  · rcases List.mem_append.mp hx with hx | hx
    · exact h.nm x hx
    · rw [List.mem_singleton] at hx; rw [hx]; exact h1
  · rcases List.mem_append.mp hx with hx | hx
    · exact h.nk x hx
    · rw [List.mem_singleton] at hx; rw [hx]; exact h2
  · rw [List.map_append, List.nodup_append]
    refine ⟨h.nd, by simp, fun a ha b hb e => ?_⟩
    rw [List.map_cons, List.map_nil, List.mem_singleton] at hb
    rw [e, hb] at ha
    exact h3 ha
def nmsP (cs : List Col) : List PV := (cs.map (·.1)).map .str
theorem nms_snoc (cs : List Col) (c : Col) : nmsP (cs ++ [c]) = nmsP cs ++ [.str c.1] := by simp [nmsP]
theorem cols_snoc (cs : List Col) (c : Col) : (cs ++ [c]).map colP = cs.map colP ++ [.tup [.str c.1, .str (kdS c.2.1), .bl c.2.2]] := by simp [colP]
theorem two_ix {r : Int} (r0 : 0 ≤ r) (r1 : r < 2) (x y : PV) : pyIx (.lst [x, y]) (.int r) = some (if r = 0 then x else y) := by
  have h : r = 0 ∨ r = 1 := by omega
  rcases h with rfl | rfl
  · exact ix0c x [y]
  · exact ix1c x y []
theorem eq0_int (r : Int) : pyEq (.int r) (.int 0) = some (.bl (decide (r = 0))) := by simp
theorem kd_ite (r : Int) : (if r = 0 then PV.str (Str.ofString "number") else PV.str (Str.ofString "text")) = .str (kdS (decide (¬ r = 0))) := by
  by_cases h : r = 0
  · subst h; rfl
  · simp [kdS, h]
theorem col_step {n : Nat} {d : DS} {cs : List Col} {most k : Int} {x5 x6 : Slot} (h : d.ok n) (hn : n + 400 < 10 ^ 15) (hc : ColsOk cs) (hl : cs.length < 50) (hk : k = cs.length) (h5 : mp (some x5) = true) (h6 : mp (some x6) = true) :
    ∃ c d' y5 y6, (seqM q__law_columns_4 (seqM q__law_columns_5 (seqM q__law_columns_6 (seqM q__law_columns_7 q__law_columns_9)))) [.own true (DS.mo d), .val (.int most), .own false (.lst (nmsP cs)), .own false (.lst (cs.map colP)), .val (.int k), x5, x6] =
      .nxt [.own true (DS.mo d'), .val (.int most), .own false (.lst (nmsP (cs ++ [c]))), .own false (.lst ((cs ++ [c]).map colP)), .val (.int k), y5, y6] ∧ mp (some y5) = true ∧ mp (some y6) = true ∧ ColsOk (cs ++ [c]) ∧ DS.ok (n + 110) d' := by
  have ssz := sizeLine_eq
  obtain ⟨t, d1, e1, ht, hk1, hf, k1⟩ := name_ok (s := .own true (.lst (nmsP cs))) h (by omega) (.inl rfl) (ns := cs.map (·.1)) (fun t ht => by
    obtain ⟨c, hc2, rfl⟩ := List.mem_map.mp ht
    exact (hc.nm c hc2).uni) (by rw [List.length_map]; omega)
  obtain ⟨r, d2, e2, r0, r1, k2⟩ := take_ok (many := 2) k1 (by omega) (by decide) (lt_bigS (by decide))
  have i2 := two_ix r0 r1 (.str (Str.ofString "number")) (.str (Str.ofString "text"))
  rw [kd_ite] at i2
  have l1 : (nmsP cs).length < sizeLine := by simp [nmsP]; omega
  have l2 : (cs.map colP).length < sizeLine := by simp; omega
  have l3 : cs.length < sizeLine := by omega
  have s0 : 0 < sizeLine := by omega
  have s2 : 2 ≤ sizeLine := by omega
  have s3 : 3 ≤ sizeLine := by omega
  have s1 : 1 ≤ sizeLine := by omega
  cases hcs : cs with
  | nil =>
    rw [hcs] at hk
    obtain ⟨q, d3, e3, q0, q1, k3⟩ := take_ok (many := 3) k2 (by omega) (by decide) (lt_bigS (by decide))
    have z : k = 0 := hk
    subst z
    rw [hcs] at e1 l1 l2 l3 hc hf
    refine ⟨(t, decide (¬ r = 0), decide (q = 0)), d3, .val (.str t), .val (.str (kdS (decide (¬ r = 0)))), ?_, rfl, rfl, hc.snoc ht hk1 hf, k3.mono (by omega)⟩
    rw [nms_snoc, cols_snoc]
    simp only [nmsP, List.map_nil, List.nil_append] at e1 l1 l2 ⊢
    simp [e1, h5, h6, e2, i2, e3, s0, s1, s2, s3, eq0_int]
  | cons c0 cs' =>
    have z : (0 : Int) < k := by rw [hk, hcs]; simp only [List.length_cons]; omega
    have hz : ¬ k ≤ 0 := by omega
    have i0 : pyIx (.lst (cs.map colP)) (.int 0) = some (colP c0) := by rw [hcs]; exact ix0c _ _
    have i1 : pyIx (colP c0) (.int 1) = some (.str (kdS c0.2.1)) := ix1c _ _ _
    rw [← hcs]
    obtain ⟨u, d3, e3, u0, u1, k3⟩ := take_ok (many := 2) k2 (by omega) (by decide) (lt_bigS (by decide))
    obtain ⟨q, d4, e4, q0, q1, k4⟩ := take_ok (many := 3) k3 (by omega) (by decide) (lt_bigS (by decide))
    by_cases c : u = 0
    · refine ⟨(t, c0.2.1, decide (q = 0)), d4, .val (.str t), .val (.str (kdS c0.2.1)), ?_, rfl, rfl, hc.snoc ht hk1 hf, k4.mono (by omega)⟩
      rw [nms_snoc, cols_snoc]
      simp [e1, h5, h6, e2, i2, e3, e4, c, z, i0, i1, l1, l2, l3, s0, s1, s2, s3, eq0_int]
    · refine ⟨(t, decide (¬ r = 0), decide (q = 0)), d4, .val (.str t), .val (.str (kdS (decide (¬ r = 0)))), ?_, rfl, rfl, hc.snoc ht hk1 hf, k4.mono (by omega)⟩
      rw [nms_snoc, cols_snoc]
      simp [e1, h5, h6, e2, i2, e3, e4, c, z, l1, l2, l3, s0, s1, s2, s3, eq0_int]
theorem cols_loop {most : Int} : ∀ (m : Nat) (cs : List Col) (d : DS) (n : Nat) (x4 x5 x6 : Slot), d.ok n → n + 110 * m + 400 < 10 ^ 15 → ColsOk cs → cs.length + m < 50 → mp (some x4) = true → mp (some x5) = true → mp (some x6) = true →
    ∃ cs2 d' y4 y5 y6, frL (tgN 4) (seqM q__law_columns_4 (seqM q__law_columns_5 (seqM q__law_columns_6 (seqM q__law_columns_7 q__law_columns_9)))) (rng cs.length m) [.own true (DS.mo d), .val (.int most), .own false (.lst (nmsP cs)), .own false (.lst (cs.map colP)), x4, x5, x6] =
      .nxt [.own true (DS.mo d'), .val (.int most), .own false (.lst (nmsP cs2)), .own false (.lst (cs2.map colP)), y4, y5, y6] ∧ mp (some y4) = true ∧ ColsOk cs2 ∧ cs2.length = cs.length + m ∧ DS.ok (n + 110 * m) d'
  | 0, cs, d, n, x4, x5, x6, h, _, hc, _, h4, _, _ => ⟨cs, d, x4, x5, x6, by rw [rng, frL], h4, hc, rfl, h⟩
  | m + 1, cs, d, n, x4, x5, x6, h, hn, hc, hl, h4, h5, h6 => by
    obtain ⟨c, d1, y5, y6, e1, g5, g6, hc1, k1⟩ := col_step (most := most) (k := (cs.length : Int)) (x5 := x5) (x6 := x6) h (by omega) hc (by omega) rfl h5 h6
    obtain ⟨cs2, d2, z4, z5, z6, e2, g4, hc2, hl2, k2⟩ := cols_loop (most := most) m (cs ++ [c]) d1 (n + 110) (.val (.int cs.length)) y5 y6 k1 (by omega) hc1 (by simp; omega) rfl g5 g6
    refine ⟨cs2, d2, z4, z5, z6, ?_, g4, hc2, by rw [hl2]; simp; omega, k2.mono (by omega)⟩
    rw [show rng (cs.length : Int) (m + 1) = .int cs.length :: rng ((cs.length : Int) + 1) m from rfl, frL_step (by simp [h4]) e1]
    rw [show (cs.length : Int) + 1 = ((cs ++ [c]).length : Int) by simp]
    exact e2
theorem columns_ok {n : Nat} {d : DS} {most : Int} (h : d.ok n) (hn : n + 10000 < 10 ^ 15) (h0 : 0 < most) (h1 : most < 20) :
    ∃ cs d', m__law_columns [.own true d.mo, .val (.int most)] = .ok (.o (.lst (cs.map colP))) [.own true (DS.mo d'), .val (.int most)] ∧ ColsOk cs ∧ 1 ≤ cs.length ∧ (cs.length : Int) ≤ most ∧ DS.ok (n + 2500) d' := by
  obtain ⟨r, d1, e1, r0, r1, k1⟩ := take_ok (many := most) h (by omega) h0 (lt_bigS (by omega))
  obtain ⟨cs, d2, y4, y5, y6, e2, _, hc, hl, k2⟩ := cols_loop (most := most) (1 + r).toNat [] d1 (n + 1) .non .non .non k1 (by omega) ColsOk.nil (by simp; omega) rfl rfl rfl
  simp only [List.length_nil, Nat.zero_add] at hl
  refine ⟨cs, d2, ?_, hc, by omega, by omega, k2.mono (by omega)⟩
  have ok : okR (1 + r) = true := okR_small (by omega) (by omega)
  rw [em__law_columns]
  simp only [nmsP, List.map_nil, List.length_nil] at e2
  have e2' : frL (tgN 4) (seqM q__law_columns_4 (seqM q__law_columns_5 (seqM q__law_columns_6 (seqM q__law_columns_7 q__law_columns_9)))) (rng 0 (1 + r).toNat) _ = _ := e2
  simp [enter, e1, ok, e2']
end Gk

set_option Elab.async false
set_option linter.all false
set_option maxRecDepth 100000
namespace Gk
open PySem PySem.Spec L2 TR
set_option autoImplicit false
theorem p_isint (v : PV) : m_is_integer [.val v] = .ok (.v (.bl (isInt v))) [.val v] := by
  rw [em_is_integer]
  cases v <;> simp [enter, isInt, isTy]
/-- the kind's name -/
def kindN : PV → PV
  | .int _ => .str "number"
  | .str s => if isTextB s then .str "text" else .non
  | _ => .non
theorem p_kind {v : PV} (h : Ask v) : m_kind_of [.val v] = .ok (.v (kindN v)) [.val v] := by
  rw [em_kind_of]
  have a := p_isint v
  have b := p_istext h
  cases v with
  | str s =>
    cases hb : isTextB s <;> simp [enter, a, b, isInt, isText, kindN, hb]
  | _ => simp [enter, a, b, isInt, isText, kindN]

/-! ### tests as objects -/
def testO (k : Str) (d p : PV) : List (Str × PV) := [(Str.ofString "_kind", .str k), (Str.ofString "_data", d), (Str.ofString "_parts", p)]
theorem lk_kind (k : Str) (d p : PV) : (testO k d p).lookup (Str.ofString "_kind") = some (.str k) := (rfl)
theorem lk_data (k : Str) (d p : PV) : (testO k d p).lookup (Str.ofString "_data") = some d := (rfl)
theorem lk_parts (k : Str) (d p : PV) : (testO k d p).lookup (Str.ofString "_parts") = some p := (rfl)
theorem lk_mkind (k : Str) (d p : PV) : (testO k d p).lookup (Str.ofString "kind") = none := (rfl)
theorem lk_mdata (k : Str) (d p : PV) : (testO k d p).lookup (Str.ofString "data") = none := (rfl)
theorem lk_mparts (k : Str) (d p : PV) : (testO k d p).lookup (Str.ofString "parts") = none := (rfl)
theorem lk_matoms (k : Str) (d p : PV) : (testO k d p).lookup (Str.ofString "atoms") = none := (rfl)
theorem lk_mnames (k : Str) (d p : PV) : (testO k d p).lookup (Str.ofString "names") = none := (rfl)
theorem lk_mtruth (k : Str) (d p : PV) : (testO k d p).lookup (Str.ofString "truth") = none := (rfl)
theorem lk_mlevels (k : Str) (d p : PV) : (testO k d p).lookup (Str.ofString "levels") = none := (rfl)
theorem pf1 (x : PV) : putFP (Str.ofString "_kind") x [] = [(Str.ofString "_kind", x)] := (rfl)
theorem pf2 (x y : PV) : putFP (Str.ofString "_data") x [(Str.ofString "_kind", y)] = [(Str.ofString "_kind", y), (Str.ofString "_data", x)] := (rfl)
theorem pf3 (x y z : PV) : putFP (Str.ofString "_parts") x [(Str.ofString "_kind", y), (Str.ofString "_data", z)] = [(Str.ofString "_kind", y), (Str.ofString "_data", z), (Str.ofString "_parts", x)] := (rfl)
theorem mk_test (k : Str) (d p : PV) : m_Test____init__ [.own true (.obj 3 []), .val (.str k), .val d, .val p] = .ok (.v .non) [.own true (.obj 3 (testO k d p)), .val (.str k), .val d, .val p] := by
  rw [em_Test____init__]
  simp [enter, pf1, pf2, pf3, testO]
@[simp] theorem tr_tup (xs : List PV) : pyTruth (.tup xs) = some (!xs.isEmpty) := (rfl)
@[simp] theorem tr_lst (xs : List PV) : pyTruth (.lst xs) = some (!xs.isEmpty) := (rfl)
theorem one_le : 1 ≤ sizeLine := by rw [sizeLine_eq]; decide
theorem two_le : 2 ≤ sizeLine := by rw [sizeLine_eq]; decide
theorem three_le : 3 ≤ sizeLine := by rw [sizeLine_eq]; decide
theorem nat_le {n : Nat} (h : n ≤ 1000000) : n ≤ sizeLine := by rw [sizeLine_eq]; omega
theorem nat_lt {n : Nat} (h : n < 1000000) : n < sizeLine := by rw [sizeLine_eq]; omega

theorem t_kind (k : Str) (d p : PV) : m_Test__kind [.val (.obj 3 (testO k d p))] = .ok (.v (.str k)) [.val (.obj 3 (testO k d p))] := by
  rw [em_Test__kind]
  simp [enter, lk_kind]

/-! ### tests as trees -/
inductive TT where
  | at (k : Str) (d : List PV) | un (k : Str) (a : TT) | bi (k : Str) (a b : TT)
def TT.pv : TT → PV
  | .at k d => .obj 3 (testO k (.tup d) (.tup []))
  | .un k a => .obj 3 (testO k (.tup []) (.tup [a.pv]))
  | .bi k a b => .obj 3 (testO k (.tup []) (.tup [a.pv, b.pv]))
def TT.atoms : TT → List TT
  | .at k d => [.at k d]
  | .un _ a => a.atoms
  | .bi _ a b => a.atoms ++ b.atoms
def TT.lev : TT → Nat
  | .at _ _ => 0
  | .un _ a => a.lev + 1
  | .bi _ a b => max a.lev b.lev + 1
def TT.kd : TT → Str
  | .at k _ => k
  | .un k _ => k
  | .bi k _ _ => k
def TT.dt : TT → List PV
  | .at _ d => d
  | _ => []
def TT.ps : TT → List TT
  | .at _ _ => []
  | .un _ a => [a]
  | .bi _ a b => [a, b]
def TT.fs (t : TT) : List (Str × PV) := testO t.kd (.tup t.dt) (.tup (t.ps.map TT.pv))
theorem TT.pv_is (t : TT) : t.pv = .obj 3 t.fs := by cases t <;> rfl
theorem TT.atoms_pos : ∀ t : TT, 1 ≤ t.atoms.length
  | .at _ _ => Nat.le_refl _
  | .un _ a => a.atoms_pos
  | .bi _ a b => by have := a.atoms_pos; rw [TT.atoms, List.length_append]; omega

/-! ### atoms -/
theorem atoms_inner (o p : PV) : ∀ (ys acc : List PV), acc.length + ys.length ≤ 1000 → cL [2] (tgN 2) (bod1 noT (getv 2)) ys acc [.val o, .val p, .non] = .ok (acc ++ ys) [.val o, .val p, .non]
  | [], acc, _ => by simp
  | y :: ys, acc, h => by
    simp only [List.length_cons] at h
    rw [cL]
    have e : bod1 noT (getv 2) acc [.val o, .val p, .val y] = .ok (acc ++ [y]) [.val o, .val p, .val y] := bod1_ok (by simp) (nat_lt (by omega))
    have r := atoms_inner o p ys (acc ++ [y]) (by simp; omega)
    simp [e, r]
theorem atoms_step {f : FM} {o : PV} {fs : List (Str × PV)} {xs ys acc : List PV} (hf : f [.val (.obj 3 fs)] = .ok (.o (.lst ys)) [.val (.obj 3 fs)]) (hm : fs.lookup (Str.ofString "atoms") = none) (hl : acc.length + ys.length ≤ 1000) :
    cL [1, 2] (tgN 1) (bod2 noT [2] (itV (mthE [(3, f)] "atoms" (selfN 1) argNil)) (tgN 2) noT (getv 2)) (.obj 3 fs :: xs) acc [.val o, .non, .non] =
      cL [1, 2] (tgN 1) (bod2 noT [2] (itV (mthE [(3, f)] "atoms" (selfN 1) argNil)) (tgN 2) noT (getv 2)) xs (acc ++ ys) [.val o, .non, .non] := by
  rw [cL]
  have e1 : itV (mthE [(3, f)] "atoms" (selfN 1) argNil) [.val o, .val (.obj 3 fs), .non] = .ok ys [.val o, .val (.obj 3 fs), .non] := by simp [hm, hf]
  have e2 := bod2_ok (tg1 := tgN 2) (t1 := noT) (e := getv 2) (vs1 := [2]) e1 (by simp) (atoms_inner o (.obj 3 fs) ys acc hl)
  simp [e2]
theorem t_atoms : ∀ (t : TT) (n : Nat), t.lev < n → t.atoms.length ≤ 1000 → m_Test__atoms n [.val t.pv] = .ok (.o (.lst (t.atoms.map TT.pv))) [.val t.pv]
  | t, 0, h, _ => by omega
  | .at k d, n + 1, _, _ => by
    rw [em_Test__atoms, TT.pv]
    simp [enter, lk_parts, tr_tup, one_le, TT.atoms, TT.pv]
  | .un k a, n + 1, h, hl => by
    have e := t_atoms a n (by rw [TT.lev] at h; omega) hl
    have q := atoms_step (o := (TT.un k a).pv) (xs := []) (acc := []) (f := m_Test__atoms n) (a.pv_is ▸ e) (by cases a <;> rfl) (by simpa [TT.atoms] using hl)
    rw [← a.pv_is] at q
    rw [em_Test__atoms]
    simp only [TT.pv] at q ⊢
    simp [enter, lk_parts, tr_tup, q, TT.atoms]
  | .bi k a b, n + 1, h, hl => by
    rw [TT.lev] at h
    rw [TT.atoms, List.length_append] at hl
    have e1 := t_atoms a n (by omega) (by omega)
    have e2 := t_atoms b n (by omega) (by omega)
    have q1 := atoms_step (o := (TT.bi k a b).pv) (xs := [b.pv]) (acc := []) (f := m_Test__atoms n) (a.pv_is ▸ e1) (by cases a <;> rfl) (by simp; omega)
    have q2 := atoms_step (o := (TT.bi k a b).pv) (xs := []) (acc := a.atoms.map TT.pv) (f := m_Test__atoms n) (b.pv_is ▸ e2) (by cases b <;> rfl) (by simp; omega)
    rw [← a.pv_is] at q1
    rw [← b.pv_is] at q2
    rw [em_Test__atoms]
    simp only [TT.pv] at q1 q2 ⊢
    simp [enter, lk_parts, tr_tup, q1, q2, TT.atoms]

/-! ### levels -/
theorem levels_step {f : FM} {o : PV} {fs : List (Str × PV)} {i j : Int} {x : Slot} (hf : f [.val (.obj 3 fs)] = .ok (.v (.int j)) [.val (.obj 3 fs)]) (hm : fs.lookup (Str.ofString "levels") = none) :
    q_Test__levels_3 f [.val o, .val (.int i), .val (.obj 3 fs)] = .nxt [.val o, .val (.int (max i (j + 1))), .val (.obj 3 fs)] := by
  have : (if j + 1 > i then j + 1 else i) = max i (j + 1) := by split <;> omega
  simp [hm, hf, this]
theorem t_levels : ∀ (t : TT) (n : Nat), t.lev < n → m_Test__levels n [.val t.pv] = .ok (.v (.int t.lev)) [.val t.pv]
  | t, 0, h => by omega
  | .at k d, n + 1, _ => by
    rw [em_Test__levels, TT.pv]
    simp [enter, lk_parts, TT.lev]
  | .un k a, n + 1, h => by
    rw [TT.lev] at h
    have e := t_levels a n (by omega)
    have q := levels_step (o := (TT.un k a).pv) (i := 0) (x := .non) (f := m_Test__levels n) (a.pv_is ▸ e) (by cases a <;> rfl)
    rw [← a.pv_is] at q
    rw [em_Test__levels]
    simp only [TT.pv] at q ⊢
    have l := frL_step (tg := tgN 2) (xs := []) (ρ := [.val (.obj 3 (testO k (.tup []) (.tup [a.pv]))), .val (.int 0), .non]) (x := a.pv) (by simp) q
    have m : max (0 : Int) (a.lev + 1) = a.lev + 1 := by omega
    simp [enter, lk_parts, l, m, TT.lev, frL_none]
  | .bi k a b, n + 1, h => by
    rw [TT.lev] at h
    have e1 := t_levels a n (by omega)
    have e2 := t_levels b n (by omega)
    have q1 := levels_step (o := (TT.bi k a b).pv) (i := 0) (x := .non) (f := m_Test__levels n) (a.pv_is ▸ e1) (by cases a <;> rfl)
    have q2 := levels_step (o := (TT.bi k a b).pv) (i := max 0 ((a.lev : Int) + 1)) (x := .non) (f := m_Test__levels n) (b.pv_is ▸ e2) (by cases b <;> rfl)
    rw [← a.pv_is] at q1
    rw [← b.pv_is] at q2
    rw [em_Test__levels]
    simp only [TT.pv] at q1 q2 ⊢
    have l1 := frL_step (tg := tgN 2) (xs := [b.pv]) (ρ := [.val (.obj 3 (testO k (.tup []) (.tup [a.pv, b.pv]))), .val (.int 0), .non]) (x := a.pv) (by simp) q1
    have l2 := frL_step (tg := tgN 2) (xs := []) (ρ := [.val (.obj 3 (testO k (.tup []) (.tup [a.pv, b.pv]))), .val (.int (max 0 ((a.lev : Int) + 1))), .val a.pv]) (x := b.pv) (by simp) q2
    rw [show (((TT.bi k a b).lev : Nat) : Int) = max (max (0 : Int) (a.lev + 1)) (b.lev + 1) by rw [TT.lev]; omega]
    simp [enter, lk_parts, l1, l2, frL_none]

/-! ### limits -/
def xBT (w : Str) : Ex := ⟨24, [(Str.ofString "why", .str w)]⟩
def limF (t : TT) (as : List Slot) : FOut := if 24 < t.atoms.length then .exc (xBT (Str.ofString "large")) as else if 12 < t.lev then .exc (xBT (Str.ofString "deep")) as else .ok (.v t.pv) as
theorem pv_lkatoms (t : TT) : t.fs.lookup (Str.ofString "atoms") = none := by cases t <;> rfl
theorem pv_lklevels (t : TT) : t.fs.lookup (Str.ofString "levels") = none := by cases t <;> rfl
theorem limited_ok {t : TT} (hl : t.lev < 40) (ha : t.atoms.length ≤ 1000) : m_limited [.val t.pv] = limF t [.val t.pv] := by
  have e1 := t_atoms t 40 hl ha
  have e2 := t_levels t 40 hl
  rw [em_limited]
  unfold limF
  rw [t.pv_is] at *
  by_cases c1 : 24 < t.atoms.length
  · have c1' : (24 : Int) < (t.atoms.length : Int) := by omega
    simp [enter, e1, pv_lkatoms, c1, c1', xBT]
  · have c1' : ¬ (24 : Int) < (t.atoms.length : Int) := by omega
    by_cases c2 : 12 < t.lev
    · have c2' : (12 : Int) < (t.lev : Int) := by omega
      simp [enter, e1, e2, pv_lkatoms, pv_lklevels, c1, c1', c2, c2', xBT]
    · have c2' : ¬ (12 : Int) < (t.lev : Int) := by omega
      simp [enter, e1, e2, pv_lkatoms, pv_lklevels, c1, c1', c2, c2']

/-! ### tests put together -/
structure TT.Ok (t : TT) : Prop where
  a : t.atoms.length ≤ 24
  l : t.lev ≤ 12
theorem isc_pv (t : TT) : isCls [3] t.pv = true := by cases t <;> rfl
theorem combine_ok {k : Str} {a b : TT} (ha : a.Ok) (hb : b.Ok) : m_combine [.val (.str k), .val a.pv, .val b.pv] = limF (.bi k a b) [.val (.str k), .val a.pv, .val b.pv] := by
  have e := limited_ok (t := .bi k a b) (by have := ha.l; have := hb.l; rw [TT.lev]; omega) (by have := ha.a; have := hb.a; rw [TT.atoms, List.length_append]; omega)
  rw [em_combine]
  unfold limF at e ⊢
  simp only [TT.pv] at e
  by_cases c1 : 24 < (TT.bi k a b).atoms.length
  · rw [if_pos c1] at e ⊢
    simp [enter, isc_pv, mk_test, two_le, e]
  · rw [if_neg c1] at e ⊢
    by_cases c2 : 12 < (TT.bi k a b).lev
    · rw [if_pos c2] at e ⊢
      simp [enter, isc_pv, mk_test, two_le, e]
    · rw [if_neg c2] at e ⊢
      simp [enter, isc_pv, mk_test, two_le, e, TT.pv]
theorem combine_no {k : Str} {a : TT} {y : PV} (hy : isCls [3] y = false) : m_combine [.val (.str k), .val a.pv, .val y] = .exc (xBT (Str.ofString "part")) [.val (.str k), .val a.pv, .val y] := by
  rw [em_combine]
  simp [enter, hy, xBT]
theorem sure_ok {a : TT} (ha : a.Ok) : m_sure [.val a.pv] = limF (.un (Str.ofString "sure") a) [.val a.pv] := by
  have e := limited_ok (t := .un (Str.ofString "sure") a) (by have := ha.l; rw [TT.lev]; omega) (by have := ha.a; rw [TT.atoms]; omega)
  rw [em_sure]
  unfold limF at e ⊢
  simp only [TT.pv] at e
  by_cases c1 : 24 < (TT.un (Str.ofString "sure") a).atoms.length
  · rw [if_pos c1] at e ⊢
    simp [enter, isc_pv, mk_test, one_le, e]
  · rw [if_neg c1] at e ⊢
    by_cases c2 : 12 < (TT.un (Str.ofString "sure") a).lev
    · rw [if_pos c2] at e ⊢
      simp [enter, isc_pv, mk_test, one_le, e]
    · rw [if_neg c2] at e ⊢
      simp [enter, isc_pv, mk_test, one_le, e, TT.pv]
theorem inv_ok {a : TT} (ha : a.Ok) : m_Test____invert__ [.val a.pv] = limF (.un (Str.ofString "not") a) [.val a.pv] := by
  have e := limited_ok (t := .un (Str.ofString "not") a) (by have := ha.l; rw [TT.lev]; omega) (by have := ha.a; rw [TT.atoms]; omega)
  rw [em_Test____invert__]
  unfold limF at e ⊢
  simp only [TT.pv] at e
  by_cases c1 : 24 < (TT.un (Str.ofString "not") a).atoms.length
  · rw [if_pos c1] at e ⊢
    simp [enter, mk_test, one_le, e]
  · rw [if_neg c1] at e ⊢
    by_cases c2 : 12 < (TT.un (Str.ofString "not") a).lev
    · rw [if_pos c2] at e ⊢
      simp [enter, mk_test, one_le, e]
    · rw [if_neg c2] at e ⊢
      simp [enter, mk_test, one_le, e, TT.pv]
theorem and_ok {a b : TT} (ha : a.Ok) (hb : b.Ok) : m_Test____and__ [.val a.pv, .val b.pv] = limF (.bi (Str.ofString "and") a b) [.val a.pv, .val b.pv] := by
  have e := combine_ok (k := Str.ofString "and") ha hb
  rw [em_Test____and__]
  unfold limF at e ⊢
  by_cases c1 : 24 < (TT.bi (Str.ofString "and") a b).atoms.length
  · rw [if_pos c1] at e ⊢
    simp [enter, e]
  · rw [if_neg c1] at e ⊢
    by_cases c2 : 12 < (TT.bi (Str.ofString "and") a b).lev
    · rw [if_pos c2] at e ⊢
      simp [enter, e]
    · rw [if_neg c2] at e ⊢
      simp [enter, e]
theorem or_ok {a b : TT} (ha : a.Ok) (hb : b.Ok) : m_Test____or__ [.val a.pv, .val b.pv] = limF (.bi (Str.ofString "or") a b) [.val a.pv, .val b.pv] := by
  have e := combine_ok (k := Str.ofString "or") ha hb
  rw [em_Test____or__]
  unfold limF at e ⊢
  by_cases c1 : 24 < (TT.bi (Str.ofString "or") a b).atoms.length
  · rw [if_pos c1] at e ⊢
    simp [enter, e]
  · rw [if_neg c1] at e ⊢
    by_cases c2 : 12 < (TT.bi (Str.ofString "or") a b).lev
    · rw [if_pos c2] at e ⊢
      simp [enter, e]
    · rw [if_neg c2] at e ⊢
      simp [enter, e]
theorem and_no {a : TT} {y : PV} (hy : isCls [3] y = false) : m_Test____and__ [.val a.pv, .val y] = .exc (xBT (Str.ofString "part")) [.val a.pv, .val y] := by
  have e := combine_no (k := Str.ofString "and") (a := a) hy
  rw [em_Test____and__]
  simp [enter, e]
theorem or_no {a : TT} {y : PV} (hy : isCls [3] y = false) : m_Test____or__ [.val a.pv, .val y] = .exc (xBT (Str.ofString "part")) [.val a.pv, .val y] := by
  have e := combine_no (k := Str.ofString "or") (a := a) hy
  rw [em_Test____or__]
  simp [enter, e]
end Gk

set_option Elab.async false
set_option linter.all false
set_option maxRecDepth 100000
namespace Gk
open PySem PySem.Spec L2 TR
set_option autoImplicit false
/-! ### makers -/
def ops6 : List Str := [Str.ofString "<", Str.ofString "<=", Str.ofString "==", Str.ofString "!=", Str.ofString ">", Str.ofString ">="]
theorem ops_is : c_OPERATORS = ops6.map PV.str := (rfl)
theorem ops_uni : ∀ s ∈ ops6, Uni s := by
  show ∀ s ∈ ops6, ∀ c ∈ L s, c < 1114112
  decide +kernel
theorem isop_ok {s : Str} (h : s ∈ ops6) : m_is_operator [.val (.str s)] = .ok (.v (.bl true)) [.val (.str s)] := by
  have hk := in_tup (ops_uni s h) ops_uni
  rw [← ops_is] at hk
  rw [em_is_operator]
  simp [enter, hk, h]
theorem compare_ok {n op : Str} {v : PV} (hn : isName (.str n) = true) (an : Ask (.str n)) (ho : op ∈ ops6) (hv : kindN v ≠ .non) (av : Ask v) : m_compare [.val (.str n), .val (.str op), .val v] = .ok (.v (TT.at (Str.ofString "compare") [.str n, .str op, v]).pv) [.val (.str n), .val (.str op), .val v] := by
  have a := p_isname an
  have b := isop_ok ho
  have c := p_kind av
  rw [hn] at a
  obtain ⟨k, hk⟩ : ∃ k, kindN v = .str k := by
    cases v with
    | int i => exact ⟨_, rfl⟩
    | str s =>
      cases hb : isTextB s with
      | true => exact ⟨_, by rw [kindN, hb]; rfl⟩
      | false => exact absurd (by rw [kindN, hb]; rfl) hv
    | _ => exact absurd rfl hv
  rw [hk] at c
  rw [em_compare]
  simp [enter, a, b, c, mk_test, three_le, TT.pv]

theorem empty_ok {n : Str} (hn : isName (.str n) = true) (an : Ask (.str n)) : m_empty [.val (.str n)] = .ok (.v (TT.at (Str.ofString "empty") [.str n]).pv) [.val (.str n)] := by
  have a := p_isname an
  rw [hn] at a
  rw [em_empty]
  simp [enter, a, mk_test, one_le, TT.pv]
theorem always_ok : m_always [] = .ok (.v (TT.at (Str.ofString "always") []).pv) [] := by
  rw [em_always]
  simp [enter, mk_test, TT.pv]

/-! ### the law's atoms -/
/-- a value of a kind (true: a text) -/
def VK (k : Bool) : PV → Prop
  | .int _ => k = false
  | .str s => k = true ∧ TxOk 40 s
  | _ => False
inductive At where
  | always | never
  | empty (c : Str)
  | among (c : Str) (vs : List PV)
  | begins (c p : Str)
  | against (c op o : Str) (more : Int)
  | compare (c op : Str) (v : PV)
def At.kd : At → Str
  | .always => Str.ofString "always"
  | .never => Str.ofString "never"
  | .empty _ => Str.ofString "empty"
  | .among _ _ => Str.ofString "among"
  | .begins _ _ => Str.ofString "begins"
  | .against _ _ _ _ => Str.ofString "against"
  | .compare _ _ _ => Str.ofString "compare"
/-- what the law's form holds behind the word -/
def At.rest : At → List PV
  | .always => []
  | .never => []
  | .empty c => [.str c]
  | .among c vs => [.str c, .lst vs]
  | .begins c p => [.str c, .str p]
  | .against c op o m => [.str c, .str op, .str o, .int m]
  | .compare c op v => [.str c, .str op, v]
/-- what the test holds -/
def At.dt : At → List PV
  | .among c vs => [.str c, .tup vs]
  | a => a.rest
def At.fp (a : At) : PV := .tup (.str a.kd :: a.rest)
def At.Ok (cs : List Col) : At → Prop
  | .always => True
  | .never => True
  | .empty c => ∃ k f, (c, k, f) ∈ cs
  | .among c vs => ∃ k f, (c, k, f) ∈ cs ∧ (∀ v ∈ vs, VK k v) ∧ 1 ≤ vs.length ∧ vs.length ≤ 8
  | .begins c p => ∃ f, (c, true, f) ∈ cs ∧ TxOk 40 p
  | .against c op o m => ∃ k f g, (c, k, f) ∈ cs ∧ (o, k, g) ∈ cs ∧ o ≠ c ∧ op ∈ ops6 ∧ (k = true → m = 0)
  | .compare c op v => ∃ k f, (c, k, f) ∈ cs ∧ op ∈ ops6 ∧ VK k v
theorem kd_num : kdS false = Str.ofString "number" := rfl
theorem kd_txt : kdS true = Str.ofString "text" := rfl
theorem kd_tt : (kdS true = Str.ofString "text") = True := eq_true rfl
theorem kd_nn : (kdS false = Str.ofString "number") = True := eq_true rfl
theorem kd_nt : ¬ kdS true = Str.ofString "number" := by decide
theorem kd_tn : ¬ kdS false = Str.ofString "text" := by decide
theorem kd_inj {a b : Bool} : (kdS a = kdS b) ↔ a = b := by revert a b; decide
theorem value_ok {n : Nat} {d : DS} {k : Bool} (h : d.ok n) (hn : n + 200 < 10 ^ 15) : ∃ v d', m__law_value [.own true d.mo, .val (.str (kdS k))] = .ok (.v v) [.own true (DS.mo d'), .val (.str (kdS k))] ∧ VK k v ∧ DS.ok (n + 50) d' := by
  cases k with
  | false =>
    obtain ⟨i, d1, e1, k1⟩ := number_ok h (by omega)
    refine ⟨.int i, d1, ?_, rfl, k1.mono (by omega)⟩
    rw [em__law_value]
    simp [enter, kd_num, e1]
  | true =>
    obtain ⟨t, d1, e1, ht, k1⟩ := text_ok h (by omega)
    refine ⟨.str t, d1, ?_, ⟨rfl, ht⟩, k1⟩
    rw [em__law_value]
    simp [enter, kd_nt, e1]
theorem fm_cmp {α : Type} {vs : List Nat} {tg : Tg} {t : EM Bool} {e : EM PV} (f g : α → PV) (p : α → Bool) (ρ : Ev) (as : List α) (st : ∀ a ∈ as, ∃ ρ1, tg (f a) (wipeE ρ vs) = some ρ1 ∧ t ρ1 = .ok (p a) ρ1 ∧ (p a = true → e ρ1 = .ok (g a) ρ1) ∧ restE ρ vs ρ1 = ρ) :
    ∀ (ys : List α) (acc : List PV), (∀ x ∈ ys, x ∈ as) → acc.length + ys.length ≤ 1000000 → cmpL vs tg t e (ys.map f) acc ρ = .ok (acc ++ (ys.filter p).map g) ρ := by
  have sz := sizeLine_eq
  intro ys
  induction ys with
  | nil => intro acc _ _; simp
  | cons x ys ih =>
    intro acc hm hl
    simp only [List.length_cons] at hl
    obtain ⟨ρ1, e1, e2, e3, e4⟩ := st x (hm x List.mem_cons_self)
    rw [List.map_cons, cmpL]
    simp only [e1, e2, noX, Out.bind_ok]
    cases h : p x with
    | true =>
      have : acc.length < sizeLine := by omega
      simp only [e3 h, Out.bind_ok, if_pos this, e4]
      rw [ih _ (fun y hy => hm y (List.mem_cons_of_mem _ hy)) (by simp; omega), List.filter_cons_of_pos h]
      simp
    | false =>
      simp only [e4]
      rw [ih _ (fun y hy => hm y (List.mem_cons_of_mem _ hy)) (by omega), List.filter_cons_of_neg (by simp [h])]
theorem ix_of {xs : List PV} {i : Int} (h0 : 0 ≤ i) (h1 : i < xs.length) : ∃ x ∈ xs, pyIx (.lst xs) (.int i) = some x := by
  have hl : i.toNat < xs.length := by omega
  refine ⟨xs[i.toNat], List.getElem_mem _, ?_⟩
  show atI xs i = _
  unfold atI ixN
  rw [if_pos h0, if_pos h1]
  exact List.getElem?_eq_getElem hl
theorem ix_map {α : Type} {f : α → PV} {xs : List α} {i : Int} (h0 : 0 ≤ i) (h1 : i < xs.length) : ∃ x ∈ xs, pyIx (.lst (xs.map f)) (.int i) = some (f x) := by
  obtain ⟨y, hy, e⟩ := ix_of (xs := xs.map f) h0 (by simpa using h1)
  obtain ⟨x, hx, rfl⟩ := List.mem_map.mp hy
  exact ⟨x, hx, e⟩
def oth (cs : List Col) (t : Str) (k : Bool) : List Col := cs.filter fun c => decide (c.2.1 = k) && decide (¬ c.1 = t)
theorem col_i0 (c : Col) : pyIx (colP c) (.int 0) = some (.str c.1) := ix0c _ _
theorem col_i1 (c : Col) : pyIx (colP c) (.int 1) = some (.str (kdS c.2.1)) := ix1c _ _ _
theorem others_ok {cs : List Col} {t : Str} {k : Bool} {s0 s1 s2 s5 s6 s7 s8 s9 s10 : Slot} (hl : cs.length ≤ 1000) (h8 : s8 = .non) :
    cmpL [8] (tgN 8) (andM (asB (bin pyEq (binN pyIx 8 (cst (.int 1))) (peek 4))) (asB (bin pyNe (binN pyIx 8 (cst (.int 0))) (peek 3)))) (binN pyIx 8 (cst (.int 0))) (cs.map colP) [] [s0, s1, s2, .val (.str t), .val (.str (kdS k)), s5, s6, s7, s8, s9, s10] =
      .ok ((oth cs t k).map fun c => .str c.1) [s0, s1, s2, .val (.str t), .val (.str (kdS k)), s5, s6, s7, s8, s9, s10] := by
  subst h8
  have := fm_cmp (vs := [8]) (tg := tgN 8) (t := andM (asB (bin pyEq (binN pyIx 8 (cst (.int 1))) (peek 4))) (asB (bin pyNe (binN pyIx 8 (cst (.int 0))) (peek 3)))) (e := binN pyIx 8 (cst (.int 0))) colP (fun c => .str c.1) (fun c => decide (c.2.1 = k) && decide (¬ c.1 = t)) [s0, s1, s2, .val (.str t), .val (.str (kdS k)), s5, s6, s7, .non, s9, s10] cs (fun c _ => by
    refine ⟨[s0, s1, s2, .val (.str t), .val (.str (kdS k)), s5, s6, s7, .val (colP c), s9, s10], by simp, ?_, fun _ => by simp [col_i0], by simp⟩
    by_cases a : c.2.1 = k
    · by_cases b : c.1 = t
      · simp [col_i0, col_i1, a, b]
      · simp [col_i0, col_i1, a, b]
    · have a' : ¬ kdS c.2.1 = kdS k := fun z => a (kd_inj.mp z)
      simp [col_i0, col_i1, a, a']) cs [] (fun _ h => h) (by simp; omega)
  simpa [oth] using this
theorem vals_loop {N : Nat} (hN : N < 10 ^ 15) {k : Bool} {s1 s2 s3 s5 s6 s7 s8 : Slot} : ∀ (m j : Nat) (acc : List PV) (d : DS) (n : Nat), d.ok n → n + 50 * m + 300 ≤ N → (∀ v ∈ acc, VK k v) → acc.length + m ≤ 100 →
    ∃ ys d', cmpL [9] (tgN 9) noT (callE m__law_value (argN 0 (argV (getv 4) argNil))) (rng j m) acc [.own true d.mo, s1, s2, s3, .val (.str (kdS k)), s5, s6, s7, s8, .non, .non] = .ok ys [.own true (DS.mo d'), s1, s2, s3, .val (.str (kdS k)), s5, s6, s7, s8, .non, .non] ∧
      (∀ v ∈ ys, VK k v) ∧ ys.length = acc.length + m ∧ DS.ok (n + 50 * m) d'
  | 0, j, acc, d, n, h, _, ha, _ => ⟨acc, d, by rw [rng, cmpL], ha, rfl, h⟩
  | m + 1, j, acc, d, n, h, hn, ha, hl => by
    obtain ⟨v, d1, e1, hv, k1⟩ := value_ok (k := k) h (by omega)
    obtain ⟨ys, d2, e2, hy, hl2, k2⟩ := vals_loop (N := N) hN (k := k) (s1 := s1) (s2 := s2) (s3 := s3) (s5 := s5) (s6 := s6) (s7 := s7) (s8 := s8) m (j + 1) (acc ++ [v]) d1 (n + 50) k1 (by omega) (fun x hx => by
      rcases List.mem_append.mp hx with hx | hx
      · exact ha x hx
      · rw [List.mem_singleton] at hx; rw [hx]; exact hv) (by simp; omega)
    refine ⟨ys, d2, ?_, hy, by rw [hl2]; simp; omega, k2.mono (by omega)⟩
    have hz : acc.length < sizeLine := nat_lt (by omega)
    rw [show rng (j : Int) (m + 1) = .int j :: rng ((j : Int) + 1) m from rfl, cmpL]
    simp only [Int.natCast_add, Int.cast_ofNat_Int] at e2
    have e2' : cmpL [9] (tgN 9) noT (callE m__law_value (argN 0 (argV (getv 4) argNil))) (rng ((j : Int) + 1) m) _ _ = _ := e2
    simp [noT, noX, e1, hz, e2']
theorem atom_ok {n : Nat} {d : DS} {cs : List Col} (h : d.ok n) (hn : n + 1000 < 10 ^ 15) (h1 : 1 ≤ cs.length) (h2 : cs.length ≤ 50) :
    ∃ a d', m__law_atom [.own true d.mo, .val (.lst (cs.map colP))] = .ok (.v (At.fp a)) [.own true (DS.mo d'), .val (.lst (cs.map colP))] ∧ a.Ok cs ∧ DS.ok (n + 200) d' := by
  obtain ⟨r, d1, e1, r0, r1, k1⟩ := take_ok (many := (cs.length : Int)) h (by omega) (by omega) (lt_bigS (by omega))
  obtain ⟨c, hc, ic⟩ := ix_map (f := colP) (xs := cs) r0 r1
  obtain ⟨q, d2, e2, q0, q1, k2⟩ := take_ok (many := 6) k1 (by omega) (by decide) (lt_bigS (by decide))
  obtain ⟨op, hop, iop⟩ := ix_map (f := PV.str) (xs := ops6) q0 (by rw [show ops6.length = 6 from rfl]; exact q1)
  obtain ⟨u, d3, e3, u0, u1, k3⟩ := take_ok (many := 13) k2 (by omega) (by decide) (lt_bigS (by decide))
  obtain ⟨t, k, f⟩ := c
  have j0 := col_i0 (t, k, f)
  have j1 := col_i1 (t, k, f)
  have kl6 : ([.str (Str.ofString "<"), .str (Str.ofString "<="), .str (Str.ofString "=="), .str (Str.ofString "!="), .str (Str.ofString ">"), .str (Str.ofString ">=")] : List PV) = ops6.map PV.str := rfl
  have six : 6 ≤ sizeLine := nat_le (by decide)
  have z6 : ops6.length ≤ sizeLine := nat_le (by decide)
  have s5 : 5 ≤ sizeLine := nat_le (by decide)
  have s4 : 4 ≤ sizeLine := nat_le (by decide)
  have sl : (cs.map colP).length ≤ sizeLine := nat_le (by simp; omega)
  have sl' : cs.length ≤ sizeLine := nat_le (by omega)
  have ho := fun (s0 s1 s2 s5 s6 s7 : Slot) => others_ok (cs := cs) (t := t) (k := k) (s0 := s0) (s1 := s1) (s2 := s2) (s5 := s5) (s6 := s6) (s7 := s7) (s9 := .non) (s10 := .non) (by omega) rfl
  have hol : (oth cs t k).length ≤ 50 := Nat.le_trans (List.length_filter_le _ _) h2
  have cmp : ∀ (hnb : ¬ u = 0) (hnb1 : ¬ u = 1) (hnb2 : ¬ u = 2) (hnb3 : ¬ u = 3) (hb : ¬ (u = 4 ∧ k = true)) (ha : ¬ (8 < u ∧ 0 < (oth cs t k).length)), ∃ a d', m__law_atom [.own true d.mo, .val (.lst (cs.map colP))] = .ok (.v (At.fp a)) [.own true (DS.mo d'), .val (.lst (cs.map colP))] ∧ a.Ok cs ∧ DS.ok (n + 200) d' := by
    intro n0 n1 n2 n3 hb ha
    obtain ⟨v, d4, e4, hv, k4⟩ := value_ok (k := k) k3 (by omega)
    refine ⟨.compare t op v, d4, ?_, ⟨k, f, hc, hop, hv⟩, k4.mono (by omega)⟩
    rw [em__law_atom]
    by_cases c4 : u = 4
    · have hk : k = false := by cases k with
        | false => rfl
        | true => exact absurd ⟨c4, rfl⟩ hb
      subst hk
      simp [-List.map_cons, enter, e1, ic, j0, j1, e2, kl6, six, z6, iop, e3, ho, n0, n1, n2, n3, c4, kd_tn, e4, At.fp, At.kd, At.rest, s4, sl, sl']
    · by_cases c8 : 8 < u
      · have hz : (oth cs t k) = [] := by
          cases e : oth cs t k with
          | nil => rfl
          | cons a b => exact absurd ⟨c8, by rw [e]; simp⟩ ha
        have z0 : (0 : Nat) ≤ sizeLine := Nat.zero_le _
        simp [-List.map_cons, enter, e1, ic, j0, j1, e2, kl6, six, z6, iop, e3, ho, n0, n1, n2, n3, c4, c8, hz, e4, At.fp, At.kd, At.rest, s4, sl, sl']
      · simp [-List.map_cons, enter, e1, ic, j0, j1, e2, kl6, six, z6, iop, e3, ho, n0, n1, n2, n3, c4, c8, e4, At.fp, At.kd, At.rest, s4, sl, sl']
  by_cases c0 : u = 0
  · refine ⟨.always, d3, ?_, trivial, k3.mono (by omega)⟩
    rw [em__law_atom]
    simp [-List.map_cons, enter, e1, ic, j0, j1, e2, kl6, six, z6, iop, e3, ho, c0, one_le, At.fp, At.kd, At.rest, sl, sl']
  by_cases c1 : u = 1
  · refine ⟨.never, d3, ?_, trivial, k3.mono (by omega)⟩
    rw [em__law_atom]
    simp [-List.map_cons, enter, e1, ic, j0, j1, e2, kl6, six, z6, iop, e3, ho, c1, one_le, At.fp, At.kd, At.rest, sl, sl']
  by_cases c2 : u = 2
  · refine ⟨.empty t, d3, ?_, ⟨k, f, hc⟩, k3.mono (by omega)⟩
    rw [em__law_atom]
    simp [-List.map_cons, enter, e1, ic, j0, j1, e2, kl6, six, z6, iop, e3, ho, c2, two_le, At.fp, At.kd, At.rest, sl, sl']
  by_cases c3 : u = 3
  · obtain ⟨w, d4, e4, w0, w1, k4⟩ := take_ok (many := 2) k3 (by omega) (by decide) (lt_bigS (by decide))
    have ok : okR (1 + w) = true := okR_small (by omega) (by omega)
    have hvl := fun (s1 s2 s3 s5 s6 s7 s8 : Slot) => vals_loop (N := n + 900) (by omega) (k := k) (s1 := s1) (s2 := s2) (s3 := s3) (s5 := s5) (s6 := s6) (s7 := s7) (s8 := s8) (1 + w).toNat 0 [] d4 (n + 1 + 1 + 1 + 1) k4 (by omega) (by intro v hv; cases hv) (by simp; omega)
    obtain ⟨ys, d5, e5, hy, hyl, k5⟩ := hvl (.val (.lst (cs.map colP))) (.val (colP (t, k, f))) (.val (.str t)) (.val (.str op)) (.val (.int 3)) (.own false (.lst ((oth cs t k).map fun c => .str c.1))) .non
    refine ⟨.among t ys, d5, ?_, ⟨k, f, hc, hy, by rw [hyl]; simp; omega, by rw [hyl]; simp; omega⟩, k5.mono (by omega)⟩
    rw [em__law_atom]
    have e5' : cmpL [9] (tgN 9) noT (callE m__law_value (argN 0 (argV (getv 4) argNil))) (rng 0 (1 + w).toNat) [] _ = _ := e5
    simp [-List.map_cons, enter, e1, ic, j0, j1, e2, kl6, six, z6, iop, e3, ho, c3, three_le, e4, ok, e5', At.fp, At.kd, At.rest, sl, sl']
  by_cases c4 : u = 4 ∧ k = true
  · obtain ⟨c4, rfl⟩ := c4
    obtain ⟨p, d4, e4, hp, k4⟩ := text_ok k3 (by omega)
    refine ⟨.begins t p, d4, ?_, ⟨f, hc, hp⟩, k4.mono (by omega)⟩
    rw [em__law_atom]
    simp [-List.map_cons, enter, e1, ic, j0, j1, e2, kl6, six, z6, iop, e3, ho, c4, kd_tt, e4, three_le, At.fp, At.kd, At.rest, sl, sl']
  by_cases c8 : 8 < u ∧ 0 < (oth cs t k).length
  · obtain ⟨c8, ho0⟩ := c8
    have n0 : ¬ u = 4 := by omega
    have hmem : ∀ o ∈ oth cs t k, ∃ g, (o.1, k, g) ∈ cs ∧ o.1 ≠ t := by
      rintro ⟨o, k2, g⟩ hx
      unfold oth at hx
      rw [List.mem_filter] at hx
      obtain ⟨hx, hp⟩ := hx
      simp only [Bool.and_eq_true, decide_eq_true_eq] at hp
      obtain ⟨rfl, hp⟩ := hp
      exact ⟨g, hx, hp⟩
    have slo : (oth cs t k).length ≤ sizeLine := nat_le (by omega)
    have ne : ¬ (oth cs t k).length = 0 := by omega
    cases k with
    | true =>
      obtain ⟨w, d4, e4, w0, w1, k4⟩ := take_ok (many := ((oth cs t true).length : Int)) k3 (by omega) (by omega) (lt_bigS (by omega))
      obtain ⟨o, hom, io⟩ := ix_map (f := fun c : Col => PV.str c.1) (xs := oth cs t true) w0 w1
      obtain ⟨g, g1, g2⟩ := hmem o hom
      refine ⟨.against t op o.1 0, d4, ?_, ⟨true, f, g, hc, g1, g2, hop, fun _ => rfl⟩, k4.mono (by omega)⟩
      rw [em__law_atom]
      simp [-List.map_cons, enter, e1, ic, j0, j1, e2, kl6, six, z6, iop, e3, ho, c0, c1, c2, c3, n0, c8, ho0, slo, ne, kd_nt, e4, io, s5, At.fp, At.kd, At.rest, sl, sl']
    | false =>
      obtain ⟨b, d4, e4, b0, b1, k4⟩ := take_ok (many := 2) k3 (by omega) (by decide) (lt_bigS (by decide))
      by_cases cb : b = 1
      · obtain ⟨m, d5, e5, k5⟩ := number_ok k4 (by omega)
        obtain ⟨w, d6, e6, w0, w1, k6⟩ := take_ok (many := ((oth cs t false).length : Int)) k5 (by omega) (by omega) (lt_bigS (by omega))
        obtain ⟨o, hom, io⟩ := ix_map (f := fun c : Col => PV.str c.1) (xs := oth cs t false) w0 w1
        obtain ⟨g, g1, g2⟩ := hmem o hom
        refine ⟨.against t op o.1 m, d6, ?_, ⟨false, f, g, hc, g1, g2, hop, fun z => nomatch z⟩, k6.mono (by omega)⟩
        rw [em__law_atom]
        simp [-List.map_cons, enter, e1, ic, j0, j1, e2, kl6, six, z6, iop, e3, ho, c0, c1, c2, c3, n0, c8, ho0, slo, ne, kd_nn, e4, cb, e5, e6, io, s5, At.fp, At.kd, At.rest, sl, sl']
      · obtain ⟨w, d6, e6, w0, w1, k6⟩ := take_ok (many := ((oth cs t false).length : Int)) k4 (by omega) (by omega) (lt_bigS (by omega))
        obtain ⟨o, hom, io⟩ := ix_map (f := fun c : Col => PV.str c.1) (xs := oth cs t false) w0 w1
        obtain ⟨g, g1, g2⟩ := hmem o hom
        refine ⟨.against t op o.1 0, d6, ?_, ⟨false, f, g, hc, g1, g2, hop, fun z => nomatch z⟩, k6.mono (by omega)⟩
        rw [em__law_atom]
        simp [-List.map_cons, enter, e1, ic, j0, j1, e2, kl6, six, z6, iop, e3, ho, c0, c1, c2, c3, n0, c8, ho0, slo, ne, kd_nn, e4, cb, e6, io, s5, At.fp, At.kd, At.rest, sl, sl']
  · exact cmp c0 c1 c2 c3 c4 c8
end Gk

set_option Elab.async false
set_option linter.all false
set_option maxRecDepth 100000
namespace Gk
open PySem PySem.Spec L2 TR
set_option autoImplicit false
/-! ### the law's forms -/
def wAnd : Str := Str.ofString "and"
def wOr : Str := Str.ofString "or"
def wNot : Str := Str.ofString "not"
def wSure : Str := Str.ofString "sure"
/-- true: not, false: sure -/
def wU (b : Bool) : Str := if b then wNot else wSure
/-- true: and, false: or -/
def wB (b : Bool) : Str := if b then wAnd else wOr
inductive Fm where
  | at (a : At) | un (b : Bool) (f : Fm) | bi (b : Bool) (f g : Fm)
def Fm.fp : Fm → PV
  | .at a => a.fp
  | .un b f => .tup [.str (wU b), f.fp]
  | .bi b f g => .tup [.str (wB b), f.fp, g.fp]
def Fm.tt : Fm → TT
  | .at a => .at a.kd a.dt
  | .un b f => .un (wU b) f.tt
  | .bi b f g => .bi (wB b) f.tt g.tt
def Fm.Ok (cs : List Col) : Fm → Prop
  | .at a => a.Ok cs
  | .un _ f => f.Ok cs
  | .bi _ f g => f.Ok cs ∧ g.Ok cs
def Fm.ats : Fm → List At
  | .at a => [a]
  | .un _ f => f.ats
  | .bi _ f g => f.ats ++ g.ats
def Fm.lv : Fm → Nat
  | .at _ => 0
  | .un _ f => f.lv + 1
  | .bi _ f g => max f.lv g.lv + 1
theorem Fm.lev : ∀ f : Fm, f.tt.lev = f.lv
  | .at _ => rfl
  | .un _ f => by rw [Fm.tt, TT.lev, Fm.lev f, Fm.lv]
  | .bi _ f g => by rw [Fm.tt, TT.lev, Fm.lev f, Fm.lev g, Fm.lv]
theorem Fm.atoms : ∀ f : Fm, f.tt.atoms = f.ats.map fun a => .at a.kd a.dt
  | .at _ => rfl
  | .un _ f => by rw [Fm.tt, TT.atoms, Fm.atoms f, Fm.ats]
  | .bi _ f g => by rw [Fm.tt, TT.atoms, Fm.atoms f, Fm.atoms g, Fm.ats, List.map_append]
theorem Fm.na (f : Fm) : f.tt.atoms.length = f.ats.length := by rw [f.atoms, List.length_map]
theorem Fm.na1 (f : Fm) : 1 ≤ f.ats.length := by rw [← f.na]; exact f.tt.atoms_pos
/-- a form as the law makes them: of so many atoms, and not too deep -/
structure Fm.Fine (cs : List Col) (f : Fm) : Prop where
  ok : f.Ok cs
  lv : f.lv + 1 ≤ 2 * f.ats.length
def wrp (r : Int) (f : Fm) : Fm := if r = 0 then .un true f else if r = 1 then .un false f else f
def wrpP (r : Int) (x : PV) : PV := if r = 0 then .tup [.str wNot, x] else if r = 1 then .tup [.str wSure, x] else x
theorem wrp_fp (r : Int) (f : Fm) : wrpP r f.fp = (wrp r f).fp := by
  unfold wrp wrpP
  split
  · rfl
  · split <;> rfl
theorem wrp_ats (r : Int) (f : Fm) : (wrp r f).ats = f.ats := by
  unfold wrp
  split
  · rfl
  · split <;> rfl
theorem wrp_ok {cs : List Col} {r : Int} {f : Fm} (h : f.Ok cs) : (wrp r f).Ok cs := by
  unfold wrp
  split
  · exact h
  · split <;> exact h
theorem wrp_lv (r : Int) (f : Fm) : (wrp r f).lv ≤ f.lv + 1 := by
  unfold wrp
  split
  · exact Nat.le_refl _
  · split
    · exact Nat.le_refl _
    · exact Nat.le_succ _
theorem wrapped_ok (r : Int) (x : PV) : m__law_wrapped [.val x, .val (.int r)] = .ok (.v (wrpP r x)) [.val x, .val (.int r)] := by
  have f3 : Str.ofString "not" = wNot := rfl
  have f4 : Str.ofString "sure" = wSure := rfl
  rw [em__law_wrapped]
  unfold wrpP
  by_cases c0 : r = 0
  · simp [enter, c0, two_le, f3]
  · by_cases c1 : r = 1
    · simp [enter, c0, c1, two_le, f4]
    · simp [enter, c0, c1]
theorem Fine.atom {cs : List Col} {a : At} (h : a.Ok cs) (r : Int) : (wrp r (.at a)).Fine cs := ⟨wrp_ok h, by
  have := wrp_lv r (.at a)
  rw [wrp_ats, Fm.ats]
  rw [Fm.lv] at this
  simp only [List.length_cons, List.length_nil]
  omega⟩
theorem Fine.link {cs : List Col} {f g : Fm} (hf : f.Fine cs) (hg : g.Fine cs) (b : Bool) (r : Int) : (wrp r (.bi b f g)).Fine cs := ⟨wrp_ok ⟨hf.ok, hg.ok⟩, by
  have := wrp_lv r (.bi b f g)
  have h1 := hf.lv
  have h2 := hg.lv
  have h3 := f.na1
  have h4 := g.na1
  rw [wrp_ats, Fm.ats, List.length_append]
  rw [Fm.lv] at this
  omega⟩
theorem pool_loop {cs : List Col} {most : Int} {x5 x6 x7 : Slot} (h1 : 1 ≤ cs.length) (h2 : cs.length ≤ 50) : ∀ (m j : Nat) (ps : List Fm) (d : DS) (n : Nat) (x4 : Slot), d.ok n → n + 210 * m + 2000 < 10 ^ 15 → (∀ f ∈ ps, f.Fine cs ∧ f.ats.length = 1) → ps.length + m ≤ 100 → mp (some x4) = true →
    ∃ (ps2 : List Fm) (d' : DS) (y4 : Slot), frL (tgN 4) q__law_form_3 (rng j m) [.own true (DS.mo d), .val (.lst (cs.map colP)), .val (.int most), .own false (.lst (ps.map Fm.fp)), x4, x5, x6, x7] =
      .nxt [.own true (DS.mo d'), .val (.lst (cs.map colP)), .val (.int most), .own false (.lst (ps2.map Fm.fp)), y4, x5, x6, x7] ∧ mp (some y4) = true ∧ (∀ f ∈ ps2, f.Fine cs ∧ f.ats.length = 1) ∧ ps2.length = ps.length + m ∧ DS.ok (n + 210 * m) d'
  | 0, j, ps, d, n, x4, h, _, hp, _, h4 => ⟨ps, d, x4, by rw [rng, frL], h4, hp, rfl, h⟩
  | m + 1, j, ps, d, n, x4, h, hn, hp, hl, h4 => by
    obtain ⟨a, d1, e1, ha, k1⟩ := atom_ok h (by omega) h1 h2
    obtain ⟨r, d2, e2, r0, r1, k2⟩ := take_ok (many := 7) k1 (by omega) (by decide) (lt_bigS (by decide))
    obtain ⟨ps2, d3, y4, e3, g4, hp2, hl2, k3⟩ := pool_loop (most := most) (x5 := x5) (x6 := x6) (x7 := x7) h1 h2 m (j + 1) (ps ++ [wrp r (.at a)]) d2 (n + 210) (.val (.int j)) (k2.mono (by omega)) (by omega) (fun f hf => by
      rcases List.mem_append.mp hf with hf | hf
      · exact hp f hf
      · rw [List.mem_singleton] at hf
        rw [hf]
        exact ⟨Fine.atom ha r, by rw [wrp_ats]; rfl⟩) (by simp; omega) rfl
    refine ⟨ps2, d3, y4, ?_, g4, hp2, by rw [hl2]; simp; omega, k3.mono (by omega)⟩
    have b : q__law_form_3 [.own true (DS.mo d), .val (.lst (cs.map colP)), .val (.int most), .own false (.lst (ps.map Fm.fp)), .val (.int j), x5, x6, x7] = .nxt [.own true (DS.mo d2), .val (.lst (cs.map colP)), .val (.int most), .own false (.lst ((ps ++ [wrp r (.at a)]).map Fm.fp)), .val (.int j), x5, x6, x7] := by
      have w := wrapped_ok r (At.fp a)
      have w2 : wrpP r (At.fp a) = (wrp r (.at a)).fp := wrp_fp r (.at a)
      rw [w2] at w
      have sz : ps.length < sizeLine := nat_lt (by omega)
      simp [e1, e2, w, sz]
    rw [show rng (j : Int) (m + 1) = .int j :: rng ((j : Int) + 1) m from rfl, frL_step (by simp [h4]) b]
    exact e3
/-- how the pool's slot looks -/
def PlS (s : Slot) (ps : List Fm) : Prop := s = .own false (.lst (ps.map Fm.fp)) ∨ s = .val (.lst (ps.map Fm.fp))
def tot (ps : List Fm) : Nat := (ps.map fun f => f.ats.length).sum
theorem sl_take (xs : List PV) (i : Nat) (h : i ≤ xs.length) : pySl (.lst xs) none (some (i : Int)) = some (.lst (xs.take i)) := by
  show some (PV.lst (cutP xs none (some (i : Int)))) = _
  unfold cutP
  rw [HT.sIx_none, HT.sIx_nat, List.drop_zero, Nat.sub_zero, Nat.min_eq_left h]
theorem sl_drop (xs : List PV) (i : Nat) (h : i ≤ xs.length) : pySl (.lst xs) (some (i : Int)) none = some (.lst (xs.drop i)) := by
  show some (PV.lst (cutP xs (some (i : Int)) none)) = _
  unfold cutP
  rw [HT.sIx_none, HT.sIx_nat, Nat.min_eq_left h]
  rw [List.take_of_length_le (by simp)]
theorem ix_nat {xs : List PV} {i : Nat} (h : i < xs.length) : pyIx (.lst xs) (.int i) = some xs[i] := by
  show atI xs i = _
  unfold atI ixN
  rw [if_pos (by omega), if_pos (by omega)]
  exact List.getElem?_eq_getElem h
theorem split2 {ps : List Fm} {i : Nat} (h : i + 1 < ps.length) : ∃ A f g B, ps = A ++ f :: g :: B ∧ A.length = i := by
  refine ⟨ps.take i, ps[i], ps[i + 1], ps.drop (i + 2), ?_, by simp; omega⟩
  have e := List.take_append_drop i ps
  rw [List.drop_eq_getElem_cons (by omega), List.drop_eq_getElem_cons (by omega)] at e
  exact e.symm
theorem add_ll (xs ys : List PV) (h : xs.length + ys.length ≤ sizeLine) : pyAdd (.lst xs) (.lst ys) = some (.lst (xs ++ ys)) := by
  show (if _ then _ else _) = _
  rw [if_pos h]
theorem link_step {cs : List Col} {most k : Int} {s3 x5 x6 x7 : Slot} {ps : List Fm} {d : DS} {n : Nat} (h : d.ok n) (hn : n + 1000 < 10 ^ 15) (hs : PlS s3 ps) (hp : ∀ f ∈ ps, f.Fine cs) (hl : 2 ≤ ps.length) (hl2 : ps.length ≤ 100)
    (h5 : mp (some x5) = true) (h6 : mp (some x6) = true) (h7 : mp (some x7) = true) :
    ∃ (ps2 : List Fm) (d' : DS) (y5 y6 y7 : Slot), (seqM q__law_form_5 (seqM q__law_form_6 (seqM q__law_form_7 q__law_form_8))) [.own true (DS.mo d), .val (.lst (cs.map colP)), .val (.int most), s3, .val (.int k), x5, x6, x7] =
      .nxt [.own true (DS.mo d'), .val (.lst (cs.map colP)), .val (.int most), .val (.lst (ps2.map Fm.fp)), .val (.int k), y5, y6, y7] ∧ mp (some y5) = true ∧ mp (some y6) = true ∧ mp (some y7) = true ∧
      (∀ f ∈ ps2, f.Fine cs) ∧ ps2.length + 1 = ps.length ∧ tot ps2 = tot ps ∧ DS.ok (n + 5) d' := by
  obtain ⟨i, d1, e1, i0, i1, k1⟩ := take_ok (many := (ps.length : Int) - 1) h (by omega) (by omega) (lt_bigS (by omega))
  obtain ⟨i, rfl⟩ := Int.eq_ofNat_of_zero_le i0
  obtain ⟨A, f, g, B, rfl, rfl⟩ := split2 (ps := ps) (i := i) (by omega)
  obtain ⟨w, d2, e2, w0, w1, k2⟩ := take_ok (many := 2) k1 (by omega) (by decide) (lt_bigS (by decide))
  obtain ⟨r, d3, e3, r0, r1, k3⟩ := take_ok (many := 7) k2 (by omega) (by decide) (lt_bigS (by decide))
  have i2 := two_ix w0 w1 (.str (Str.ofString "and")) (.str (Str.ofString "or"))
  have ew : (if w = 0 then PV.str (Str.ofString "and") else PV.str (Str.ofString "or")) = .str (wB (decide (w = 0))) := by
    by_cases hw : w = 0
    · subst hw; rfl
    · simp [wB, hw, wOr]
  rw [ew] at i2
  have hf := hp f (by simp)
  have hg := hp g (by simp)
  have em : (A ++ f :: g :: B).map Fm.fp = A.map Fm.fp ++ f.fp :: g.fp :: B.map Fm.fp := by simp
  have hm : ((A ++ f :: g :: B).map Fm.fp).length = A.length + B.length + 2 := by simp; omega
  have hm2 : (A ++ f :: g :: B).length = A.length + B.length + 2 := by simp; omega
  obtain ⟨N, hN⟩ : ∃ N, N = A.length + B.length + 2 := ⟨_, rfl⟩
  rw [← hN] at hm hm2
  rw [hm2] at e1 hl2
  have ia : pyIx (.lst ((A ++ f :: g :: B).map Fm.fp)) (.int (A.length : Int)) = some f.fp := by
    rw [ix_nat (by omega)]
    simp
  have ib : pyIx (.lst ((A ++ f :: g :: B).map Fm.fp)) (.int ((A.length : Int) + 1)) = some g.fp := by
    rw [show (A.length : Int) + 1 = ((A.length + 1 : Nat) : Int) by omega, ix_nat (by omega)]
    simp [List.getElem_append_right]
  have sa : pySl (.lst ((A ++ f :: g :: B).map Fm.fp)) none (some (A.length : Int)) = some (.lst (A.map Fm.fp)) := by
    rw [sl_take _ _ (by omega), em]
    congr 2
    exact List.take_left' (by simp)
  have sb : pySl (.lst ((A ++ f :: g :: B).map Fm.fp)) (some ((A.length : Int) + 2)) none = some (.lst (B.map Fm.fp)) := by
    rw [show (A.length : Int) + 2 = ((A.length + 2 : Nat) : Int) by omega, sl_drop _ _ (by omega), em]
    congr 2
    rw [show A.map Fm.fp ++ f.fp :: g.fp :: B.map Fm.fp = (A.map Fm.fp ++ [f.fp, g.fp]) ++ B.map Fm.fp by simp]
    exact List.drop_left' (by simp)
  have w1 := wrapped_ok r (.tup [.str (wB (decide (w = 0))), f.fp, g.fp])
  have w2 : wrpP r (.tup [.str (wB (decide (w = 0))), f.fp, g.fp]) = (wrp r (.bi (decide (w = 0)) f g)).fp := wrp_fp r (.bi (decide (w = 0)) f g)
  rw [w2] at w1
  generalize hX : wrp r (.bi (decide (w = 0)) f g) = X at w1
  have p1 := add_ll (A.map Fm.fp) [X.fp] (nat_le (by simp; omega))
  have p2 := add_ll (A.map Fm.fp ++ [X.fp]) (B.map Fm.fp) (nat_le (by simp; omega))
  have sz : (A.length + B.length + 2) ≤ sizeLine := nat_le (by omega)
  refine ⟨A ++ X :: B, d3, .val (.int A.length), .val (.str (wB (decide (w = 0)))), .val X.fp, ?_, rfl, rfl, rfl, ?_, by simp; omega, ?_, k3.mono (by omega)⟩
  · have eo : (A ++ X :: B).map Fm.fp = A.map Fm.fp ++ [X.fp] ++ B.map Fm.fp := by simp
    rw [eo]
    unfold PlS at hs
    generalize (A ++ f :: g :: B).map Fm.fp = M at *
    have hM := hm
    have hMs : N ≤ sizeLine := by omega
    rcases hs with rfl | rfl
    · simp [e1, h5, h6, h7, e2, i2, two_le, three_le, one_le, ia, ib, e3, w1, sa, sb, p1, p2, hMs, hM]
    · simp [e1, h5, h6, h7, e2, i2, two_le, three_le, one_le, ia, ib, e3, w1, sa, sb, p1, p2, hMs, hM]
  · intro x hx
    simp only [List.mem_append, List.mem_cons] at hx
    rcases hx with hx | rfl | hx
    · exact hp x (by simp [hx])
    · rw [← hX]; exact Fine.link hf hg _ _
    · exact hp x (by simp [hx])
  · simp [tot, ← hX, wrp_ats, Fm.ats]
    omega
theorem link_loop {cs : List Col} {most : Int} : ∀ (m j : Nat) (ps : List Fm) (d : DS) (n : Nat) (s3 x4 x5 x6 x7 : Slot), d.ok n → n + 5 * m + 2000 < 10 ^ 15 → PlS s3 ps → (∀ f ∈ ps, f.Fine cs) → m < ps.length → ps.length ≤ 100 → mp (some x4) = true → mp (some x5) = true → mp (some x6) = true → mp (some x7) = true →
    ∃ (ps2 : List Fm) (d' : DS) (y3 y4 y5 y6 y7 : Slot), frL (tgN 4) (seqM q__law_form_5 (seqM q__law_form_6 (seqM q__law_form_7 q__law_form_8))) (rng j m) [.own true (DS.mo d), .val (.lst (cs.map colP)), .val (.int most), s3, x4, x5, x6, x7] =
      .nxt [.own true (DS.mo d'), .val (.lst (cs.map colP)), .val (.int most), y3, y4, y5, y6, y7] ∧ PlS y3 ps2 ∧ (∀ f ∈ ps2, f.Fine cs) ∧ ps2.length + m = ps.length ∧ tot ps2 = tot ps ∧ DS.ok (n + 5 * m) d'
  | 0, j, ps, d, n, s3, x4, x5, x6, x7, h, _, hs, hp, _, _, _, _, _, _ => ⟨ps, d, s3, x4, x5, x6, x7, by rw [rng, frL], hs, hp, rfl, rfl, h⟩
  | m + 1, j, ps, d, n, s3, x4, x5, x6, x7, h, hn, hs, hp, hm, hl, h4, h5, h6, h7 => by
    obtain ⟨ps1, d1, y5, y6, y7, e1, g5, g6, g7, hp1, hl1, ht1, k1⟩ := link_step (most := most) (k := (j : Int)) h (by omega) hs hp (by omega) hl h5 h6 h7
    obtain ⟨ps2, d2, z3, z4, z5, z6, z7, e2, hs2, hp2, hl2, ht2, k2⟩ := link_loop (most := most) m (j + 1) ps1 d1 (n + 5) _ (.val (.int j)) y5 y6 y7 k1 (by omega) (.inr rfl) hp1 (by omega) (by omega) rfl g5 g6 g7
    refine ⟨ps2, d2, z3, z4, z5, z6, z7, ?_, hs2, hp2, by omega, ht2.trans ht1, k2.mono (by omega)⟩
    rw [show rng (j : Int) (m + 1) = .int j :: rng ((j : Int) + 1) m from rfl, frL_step (by simp [h4]) e1]
    exact e2
theorem tot_ones {cs : List Col} : ∀ {ps : List Fm}, (∀ f ∈ ps, f.Fine cs ∧ f.ats.length = 1) → tot ps = ps.length
  | [], _ => rfl
  | f :: ps, h => by
    have := tot_ones (ps := ps) (fun g hg => h g (List.mem_cons_of_mem _ hg))
    have h1 := (h f List.mem_cons_self).2
    unfold tot at this ⊢
    simp [this, h1]
    omega
theorem form_ok {n : Nat} {d : DS} {cs : List Col} {most : Int} (h : d.ok n) (hn : n + 20000 < 10 ^ 15) (h1 : 1 ≤ cs.length) (h2 : cs.length ≤ 50) (m0 : 0 < most) (m1 : most ≤ 20) :
    ∃ f d', m__law_form [.own true d.mo, .val (.lst (cs.map colP)), .val (.int most)] = .ok (.v (Fm.fp f)) [.own true (DS.mo d'), .val (.lst (cs.map colP)), .val (.int most)] ∧ f.Fine cs ∧ (f.ats.length : Int) ≤ most ∧ DS.ok (n + 5000) d' := by
  obtain ⟨r, d1, e1, r0, r1, k1⟩ := take_ok (many := most) h (by omega) m0 (lt_bigS (by omega))
  obtain ⟨r, rfl⟩ := Int.eq_ofNat_of_zero_le r0
  obtain ⟨ps, d2, y4, e2, g4, hp, hl, k2⟩ := pool_loop (most := most) (x5 := .non) (x6 := .non) (x7 := .non) h1 h2 (1 + r) 0 [] d1 (n + 1) .non k1 (by omega) (fun f hf => by cases hf) (by simp; omega) rfl
  simp only [List.length_nil, Nat.zero_add] at hl
  obtain ⟨ps2, d3, z3, z4, z5, z6, z7, e3, hs, hp2, hl2, ht, k3⟩ := link_loop (cs := cs) (most := most) r 0 ps d2 (n + 1 + 210 * (1 + r)) (.own false (.lst (ps.map Fm.fp))) y4 .non .non .non k2 (by omega) (.inl rfl) (fun f hf => (hp f hf).1) (by omega) (by omega) g4 rfl rfl rfl
  have hone : ps2.length = 1 := by omega
  obtain ⟨f, rfl⟩ : ∃ f, ps2 = [f] := by
    match ps2, hone with
    | [f], _ => exact ⟨f, rfl⟩
  have htt : tot [f] = f.ats.length := by simp [tot]
  rw [htt, tot_ones hp] at ht
  refine ⟨f, d3, ?_, hp2 f List.mem_cons_self, by omega, k3.mono (by omega)⟩
  have ok : okR (1 + (r : Int)) = true := okR_small (by omega) (by omega)
  have ok2 : okR ((ps.length : Int) - 1) = true := okR_small (by omega) (by omega)
  have t1 : (1 + (r : Int)).toNat = 1 + r := by omega
  have t2 : ((ps.length : Int) - 1).toNat = r := by omega
  have sz : ps.length ≤ sizeLine := nat_le (by omega)
  have i0 : pyIx (.lst ([f].map Fm.fp)) (.int 0) = some f.fp := ix0c _ _
  have e2' : frL (tgN 4) q__law_form_3 (rng 0 (1 + r)) _ = _ := e2
  have e3' : frL (tgN 4) (seqM q__law_form_5 (seqM q__law_form_6 (seqM q__law_form_7 q__law_form_8))) (rng 0 r) _ = _ := e3
  simp only [List.map_nil] at e2'
  rw [em__law_form]
  rcases hs with rfl | rfl
  · simp [-List.map_cons, enter, e1, ok, t1, e2', sz, ok2, t2, e3', i0]
  · simp [-List.map_cons, enter, e1, ok, t1, e2', sz, ok2, t2, e3', i0]
end Gk

set_option Elab.async false
set_option linter.all false
set_option maxRecDepth 100000
namespace Gk
open PySem PySem.Spec L2 TR
set_option autoImplicit false
/-! ### the words differ -/
@[simp] theorem w_0_1 : (Str.ofString "and" = Str.ofString "or") = False := eq_false (by decide)
@[simp] theorem w_0_2 : (Str.ofString "and" = Str.ofString "not") = False := eq_false (by decide)
@[simp] theorem w_0_3 : (Str.ofString "and" = Str.ofString "sure") = False := eq_false (by decide)
@[simp] theorem w_0_4 : (Str.ofString "and" = Str.ofString "always") = False := eq_false (by decide)
@[simp] theorem w_0_5 : (Str.ofString "and" = Str.ofString "never") = False := eq_false (by decide)
@[simp] theorem w_0_6 : (Str.ofString "and" = Str.ofString "empty") = False := eq_false (by decide)
@[simp] theorem w_0_7 : (Str.ofString "and" = Str.ofString "among") = False := eq_false (by decide)
@[simp] theorem w_0_8 : (Str.ofString "and" = Str.ofString "begins") = False := eq_false (by decide)
@[simp] theorem w_0_9 : (Str.ofString "and" = Str.ofString "compare") = False := eq_false (by decide)
@[simp] theorem w_0_10 : (Str.ofString "and" = Str.ofString "against") = False := eq_false (by decide)
@[simp] theorem w_1_0 : (Str.ofString "or" = Str.ofString "and") = False := eq_false (by decide)
@[simp] theorem w_1_2 : (Str.ofString "or" = Str.ofString "not") = False := eq_false (by decide)
@[simp] theorem w_1_3 : (Str.ofString "or" = Str.ofString "sure") = False := eq_false (by decide)
@[simp] theorem w_1_4 : (Str.ofString "or" = Str.ofString "always") = False := eq_false (by decide)
@[simp] theorem w_1_5 : (Str.ofString "or" = Str.ofString "never") = False := eq_false (by decide)
@[simp] theorem w_1_6 : (Str.ofString "or" = Str.ofString "empty") = False := eq_false (by decide)
@[simp] theorem w_1_7 : (Str.ofString "or" = Str.ofString "among") = False := eq_false (by decide)
@[simp] theorem w_1_8 : (Str.ofString "or" = Str.ofString "begins") = False := eq_false (by decide)
@[simp] theorem w_1_9 : (Str.ofString "or" = Str.ofString "compare") = False := eq_false (by decide)
@[simp] theorem w_1_10 : (Str.ofString "or" = Str.ofString "against") = False := eq_false (by decide)
@[simp] theorem w_2_0 : (Str.ofString "not" = Str.ofString "and") = False := eq_false (by decide)
@[simp] theorem w_2_1 : (Str.ofString "not" = Str.ofString "or") = False := eq_false (by decide)
@[simp] theorem w_2_3 : (Str.ofString "not" = Str.ofString "sure") = False := eq_false (by decide)
@[simp] theorem w_2_4 : (Str.ofString "not" = Str.ofString "always") = False := eq_false (by decide)
@[simp] theorem w_2_5 : (Str.ofString "not" = Str.ofString "never") = False := eq_false (by decide)
@[simp] theorem w_2_6 : (Str.ofString "not" = Str.ofString "empty") = False := eq_false (by decide)
@[simp] theorem w_2_7 : (Str.ofString "not" = Str.ofString "among") = False := eq_false (by decide)
@[simp] theorem w_2_8 : (Str.ofString "not" = Str.ofString "begins") = False := eq_false (by decide)
@[simp] theorem w_2_9 : (Str.ofString "not" = Str.ofString "compare") = False := eq_false (by decide)
@[simp] theorem w_2_10 : (Str.ofString "not" = Str.ofString "against") = False := eq_false (by decide)
@[simp] theorem w_3_0 : (Str.ofString "sure" = Str.ofString "and") = False := eq_false (by decide)
@[simp] theorem w_3_1 : (Str.ofString "sure" = Str.ofString "or") = False := eq_false (by decide)
@[simp] theorem w_3_2 : (Str.ofString "sure" = Str.ofString "not") = False := eq_false (by decide)
@[simp] theorem w_3_4 : (Str.ofString "sure" = Str.ofString "always") = False := eq_false (by decide)
@[simp] theorem w_3_5 : (Str.ofString "sure" = Str.ofString "never") = False := eq_false (by decide)
@[simp] theorem w_3_6 : (Str.ofString "sure" = Str.ofString "empty") = False := eq_false (by decide)
@[simp] theorem w_3_7 : (Str.ofString "sure" = Str.ofString "among") = False := eq_false (by decide)
@[simp] theorem w_3_8 : (Str.ofString "sure" = Str.ofString "begins") = False := eq_false (by decide)
@[simp] theorem w_3_9 : (Str.ofString "sure" = Str.ofString "compare") = False := eq_false (by decide)
@[simp] theorem w_3_10 : (Str.ofString "sure" = Str.ofString "against") = False := eq_false (by decide)
@[simp] theorem w_4_0 : (Str.ofString "always" = Str.ofString "and") = False := eq_false (by decide)
@[simp] theorem w_4_1 : (Str.ofString "always" = Str.ofString "or") = False := eq_false (by decide)
@[simp] theorem w_4_2 : (Str.ofString "always" = Str.ofString "not") = False := eq_false (by decide)
@[simp] theorem w_4_3 : (Str.ofString "always" = Str.ofString "sure") = False := eq_false (by decide)
@[simp] theorem w_4_5 : (Str.ofString "always" = Str.ofString "never") = False := eq_false (by decide)
@[simp] theorem w_4_6 : (Str.ofString "always" = Str.ofString "empty") = False := eq_false (by decide)
@[simp] theorem w_4_7 : (Str.ofString "always" = Str.ofString "among") = False := eq_false (by decide)
@[simp] theorem w_4_8 : (Str.ofString "always" = Str.ofString "begins") = False := eq_false (by decide)
@[simp] theorem w_4_9 : (Str.ofString "always" = Str.ofString "compare") = False := eq_false (by decide)
@[simp] theorem w_4_10 : (Str.ofString "always" = Str.ofString "against") = False := eq_false (by decide)
@[simp] theorem w_5_0 : (Str.ofString "never" = Str.ofString "and") = False := eq_false (by decide)
@[simp] theorem w_5_1 : (Str.ofString "never" = Str.ofString "or") = False := eq_false (by decide)
@[simp] theorem w_5_2 : (Str.ofString "never" = Str.ofString "not") = False := eq_false (by decide)
@[simp] theorem w_5_3 : (Str.ofString "never" = Str.ofString "sure") = False := eq_false (by decide)
@[simp] theorem w_5_4 : (Str.ofString "never" = Str.ofString "always") = False := eq_false (by decide)
@[simp] theorem w_5_6 : (Str.ofString "never" = Str.ofString "empty") = False := eq_false (by decide)
@[simp] theorem w_5_7 : (Str.ofString "never" = Str.ofString "among") = False := eq_false (by decide)
@[simp] theorem w_5_8 : (Str.ofString "never" = Str.ofString "begins") = False := eq_false (by decide)
@[simp] theorem w_5_9 : (Str.ofString "never" = Str.ofString "compare") = False := eq_false (by decide)
@[simp] theorem w_5_10 : (Str.ofString "never" = Str.ofString "against") = False := eq_false (by decide)
@[simp] theorem w_6_0 : (Str.ofString "empty" = Str.ofString "and") = False := eq_false (by decide)
@[simp] theorem w_6_1 : (Str.ofString "empty" = Str.ofString "or") = False := eq_false (by decide)
@[simp] theorem w_6_2 : (Str.ofString "empty" = Str.ofString "not") = False := eq_false (by decide)
@[simp] theorem w_6_3 : (Str.ofString "empty" = Str.ofString "sure") = False := eq_false (by decide)
@[simp] theorem w_6_4 : (Str.ofString "empty" = Str.ofString "always") = False := eq_false (by decide)
@[simp] theorem w_6_5 : (Str.ofString "empty" = Str.ofString "never") = False := eq_false (by decide)
@[simp] theorem w_6_7 : (Str.ofString "empty" = Str.ofString "among") = False := eq_false (by decide)
@[simp] theorem w_6_8 : (Str.ofString "empty" = Str.ofString "begins") = False := eq_false (by decide)
@[simp] theorem w_6_9 : (Str.ofString "empty" = Str.ofString "compare") = False := eq_false (by decide)
@[simp] theorem w_6_10 : (Str.ofString "empty" = Str.ofString "against") = False := eq_false (by decide)
@[simp] theorem w_7_0 : (Str.ofString "among" = Str.ofString "and") = False := eq_false (by decide)
@[simp] theorem w_7_1 : (Str.ofString "among" = Str.ofString "or") = False := eq_false (by decide)
@[simp] theorem w_7_2 : (Str.ofString "among" = Str.ofString "not") = False := eq_false (by decide)
@[simp] theorem w_7_3 : (Str.ofString "among" = Str.ofString "sure") = False := eq_false (by decide)
@[simp] theorem w_7_4 : (Str.ofString "among" = Str.ofString "always") = False := eq_false (by decide)
@[simp] theorem w_7_5 : (Str.ofString "among" = Str.ofString "never") = False := eq_false (by decide)
@[simp] theorem w_7_6 : (Str.ofString "among" = Str.ofString "empty") = False := eq_false (by decide)
@[simp] theorem w_7_8 : (Str.ofString "among" = Str.ofString "begins") = False := eq_false (by decide)
@[simp] theorem w_7_9 : (Str.ofString "among" = Str.ofString "compare") = False := eq_false (by decide)
@[simp] theorem w_7_10 : (Str.ofString "among" = Str.ofString "against") = False := eq_false (by decide)
@[simp] theorem w_8_0 : (Str.ofString "begins" = Str.ofString "and") = False := eq_false (by decide)
@[simp] theorem w_8_1 : (Str.ofString "begins" = Str.ofString "or") = False := eq_false (by decide)
@[simp] theorem w_8_2 : (Str.ofString "begins" = Str.ofString "not") = False := eq_false (by decide)
@[simp] theorem w_8_3 : (Str.ofString "begins" = Str.ofString "sure") = False := eq_false (by decide)
@[simp] theorem w_8_4 : (Str.ofString "begins" = Str.ofString "always") = False := eq_false (by decide)
@[simp] theorem w_8_5 : (Str.ofString "begins" = Str.ofString "never") = False := eq_false (by decide)
@[simp] theorem w_8_6 : (Str.ofString "begins" = Str.ofString "empty") = False := eq_false (by decide)
@[simp] theorem w_8_7 : (Str.ofString "begins" = Str.ofString "among") = False := eq_false (by decide)
@[simp] theorem w_8_9 : (Str.ofString "begins" = Str.ofString "compare") = False := eq_false (by decide)
@[simp] theorem w_8_10 : (Str.ofString "begins" = Str.ofString "against") = False := eq_false (by decide)
@[simp] theorem w_9_0 : (Str.ofString "compare" = Str.ofString "and") = False := eq_false (by decide)
@[simp] theorem w_9_1 : (Str.ofString "compare" = Str.ofString "or") = False := eq_false (by decide)
@[simp] theorem w_9_2 : (Str.ofString "compare" = Str.ofString "not") = False := eq_false (by decide)
@[simp] theorem w_9_3 : (Str.ofString "compare" = Str.ofString "sure") = False := eq_false (by decide)
@[simp] theorem w_9_4 : (Str.ofString "compare" = Str.ofString "always") = False := eq_false (by decide)
@[simp] theorem w_9_5 : (Str.ofString "compare" = Str.ofString "never") = False := eq_false (by decide)
@[simp] theorem w_9_6 : (Str.ofString "compare" = Str.ofString "empty") = False := eq_false (by decide)
@[simp] theorem w_9_7 : (Str.ofString "compare" = Str.ofString "among") = False := eq_false (by decide)
@[simp] theorem w_9_8 : (Str.ofString "compare" = Str.ofString "begins") = False := eq_false (by decide)
@[simp] theorem w_9_10 : (Str.ofString "compare" = Str.ofString "against") = False := eq_false (by decide)
@[simp] theorem w_10_0 : (Str.ofString "against" = Str.ofString "and") = False := eq_false (by decide)
@[simp] theorem w_10_1 : (Str.ofString "against" = Str.ofString "or") = False := eq_false (by decide)
@[simp] theorem w_10_2 : (Str.ofString "against" = Str.ofString "not") = False := eq_false (by decide)
@[simp] theorem w_10_3 : (Str.ofString "against" = Str.ofString "sure") = False := eq_false (by decide)
@[simp] theorem w_10_4 : (Str.ofString "against" = Str.ofString "always") = False := eq_false (by decide)
@[simp] theorem w_10_5 : (Str.ofString "against" = Str.ofString "never") = False := eq_false (by decide)
@[simp] theorem w_10_6 : (Str.ofString "against" = Str.ofString "empty") = False := eq_false (by decide)
@[simp] theorem w_10_7 : (Str.ofString "against" = Str.ofString "among") = False := eq_false (by decide)
@[simp] theorem w_10_8 : (Str.ofString "against" = Str.ofString "begins") = False := eq_false (by decide)
@[simp] theorem w_10_9 : (Str.ofString "against" = Str.ofString "compare") = False := eq_false (by decide)
@[simp] theorem wo_0_1 : (Str.ofString "<" = Str.ofString "<=") = False := eq_false (by decide)
@[simp] theorem wo_0_2 : (Str.ofString "<" = Str.ofString "==") = False := eq_false (by decide)
@[simp] theorem wo_0_3 : (Str.ofString "<" = Str.ofString "!=") = False := eq_false (by decide)
@[simp] theorem wo_0_4 : (Str.ofString "<" = Str.ofString ">") = False := eq_false (by decide)
@[simp] theorem wo_0_5 : (Str.ofString "<" = Str.ofString ">=") = False := eq_false (by decide)
@[simp] theorem wo_1_0 : (Str.ofString "<=" = Str.ofString "<") = False := eq_false (by decide)
@[simp] theorem wo_1_2 : (Str.ofString "<=" = Str.ofString "==") = False := eq_false (by decide)
@[simp] theorem wo_1_3 : (Str.ofString "<=" = Str.ofString "!=") = False := eq_false (by decide)
@[simp] theorem wo_1_4 : (Str.ofString "<=" = Str.ofString ">") = False := eq_false (by decide)
@[simp] theorem wo_1_5 : (Str.ofString "<=" = Str.ofString ">=") = False := eq_false (by decide)
@[simp] theorem wo_2_0 : (Str.ofString "==" = Str.ofString "<") = False := eq_false (by decide)
@[simp] theorem wo_2_1 : (Str.ofString "==" = Str.ofString "<=") = False := eq_false (by decide)
@[simp] theorem wo_2_3 : (Str.ofString "==" = Str.ofString "!=") = False := eq_false (by decide)
@[simp] theorem wo_2_4 : (Str.ofString "==" = Str.ofString ">") = False := eq_false (by decide)
@[simp] theorem wo_2_5 : (Str.ofString "==" = Str.ofString ">=") = False := eq_false (by decide)
@[simp] theorem wo_3_0 : (Str.ofString "!=" = Str.ofString "<") = False := eq_false (by decide)
@[simp] theorem wo_3_1 : (Str.ofString "!=" = Str.ofString "<=") = False := eq_false (by decide)
@[simp] theorem wo_3_2 : (Str.ofString "!=" = Str.ofString "==") = False := eq_false (by decide)
@[simp] theorem wo_3_4 : (Str.ofString "!=" = Str.ofString ">") = False := eq_false (by decide)
@[simp] theorem wo_3_5 : (Str.ofString "!=" = Str.ofString ">=") = False := eq_false (by decide)
@[simp] theorem wo_4_0 : (Str.ofString ">" = Str.ofString "<") = False := eq_false (by decide)
@[simp] theorem wo_4_1 : (Str.ofString ">" = Str.ofString "<=") = False := eq_false (by decide)
@[simp] theorem wo_4_2 : (Str.ofString ">" = Str.ofString "==") = False := eq_false (by decide)
@[simp] theorem wo_4_3 : (Str.ofString ">" = Str.ofString "!=") = False := eq_false (by decide)
@[simp] theorem wo_4_5 : (Str.ofString ">" = Str.ofString ">=") = False := eq_false (by decide)
@[simp] theorem wo_5_0 : (Str.ofString ">=" = Str.ofString "<") = False := eq_false (by decide)
@[simp] theorem wo_5_1 : (Str.ofString ">=" = Str.ofString "<=") = False := eq_false (by decide)
@[simp] theorem wo_5_2 : (Str.ofString ">=" = Str.ofString "==") = False := eq_false (by decide)
@[simp] theorem wo_5_3 : (Str.ofString ">=" = Str.ofString "!=") = False := eq_false (by decide)
@[simp] theorem wo_5_4 : (Str.ofString ">=" = Str.ofString ">") = False := eq_false (by decide)

/-! ### further makers -/
theorem Nm.ask {n : Nat} {t : Str} (h : Nm n t) (hn : n ≤ 1000) : Ask (.str t) := fun s e => by
  cases e
  exact ⟨by have := h.hi; omega, h.uni⟩
theorem VK.ask {k : Bool} {v : PV} (h : VK k v) : Ask v := fun s e => by
  subst e
  exact h.2.st (by decide)
theorem TxOk.isText {n : Nat} {s : Str} (h : TxOk n s) : isTextB s = true := by
  unfold isTextB
  rw [List.all_eq_true]
  intro c hc
  simpa using h.all c hc
theorem VK.kind {k : Bool} {v : PV} (h : VK k v) : kindN v = .str (kdS k) := by
  cases v with
  | int i =>
    have : k = false := h
    subst this
    rfl
  | str s =>
    obtain ⟨rfl, ht⟩ := h
    show (if isTextB s = true then _ else _) = _
    rw [ht.isText]
    rfl
  | _ => exact h.elim
theorem VK.knn {k : Bool} {v : PV} (h : VK k v) : kindN v ≠ .non := by rw [h.kind]; exact fun z => nomatch z
theorem never_ok : m_never [] = .ok (.v (TT.at (Str.ofString "never") []).pv) [] := by
  rw [em_never]
  simp [enter, mk_test, TT.pv]
theorem begins_ok {n p : Str} (hn : isName (.str n) = true) (an : Ask (.str n)) (hp : TxOk 40 p) : m_begins [.val (.str n), .val (.str p)] = .ok (.v (TT.at (Str.ofString "begins") [.str n, .str p]).pv) [.val (.str n), .val (.str p)] := by
  have a := p_isname an
  have b := p_istext (v := .str p) (fun s e => by cases e; exact hp.st (by decide))
  rw [hn] at a
  rw [show isText (.str p) = true from hp.isText] at b
  rw [em_begins]
  simp [enter, a, b, mk_test, two_le, TT.pv]
theorem against_ok {n op o : Str} {m : Int} (hn : isName (.str n) = true) (an : Ask (.str n)) (hp : op ∈ ops6) (ho : isName (.str o) = true) (ao : Ask (.str o)) (ne : o ≠ n) :
    m_against [.val (.str n), .val (.str op), .val (.str o), .val (.int m)] = .ok (.v (TT.at (Str.ofString "against") [.str n, .str op, .str o, .int m]).pv) [.val (.str n), .val (.str op), .val (.str o), .val (.int m)] := by
  have a := p_isname an
  have b := isop_ok hp
  have c := p_isname ao
  have e := p_isint (.int m)
  rw [hn] at a
  rw [ho] at c
  rw [show isInt (.int m) = true from rfl] at e
  have f4 : 4 ≤ sizeLine := nat_le (by decide)
  rw [em_against]
  simp [enter, a, b, c, e, ne, mk_test, f4, TT.pv]
theorem among_loop {k : Bool} {s0 s1 : Slot} : ∀ (vs : List PV) (x : Slot), (∀ v ∈ vs, VK k v) → mp (some x) = true → ∃ y, frL (tgN 2) q_among_6 vs [s0, s1, x] = .nxt [s0, s1, y]
  | [], x, _, _ => ⟨x, by rw [frL]⟩
  | v :: vs, x, h, hx => by
    have hv := h v List.mem_cons_self
    have c := p_kind hv.ask
    rw [hv.kind] at c
    obtain ⟨y, e⟩ := among_loop (k := k) (s0 := s0) (s1 := s1) vs (.val v) (fun w hw => h w (List.mem_cons_of_mem _ hw)) rfl
    refine ⟨y, ?_⟩
    rw [← e]
    exact frL_step (ρ1 := [s0, s1, .val v]) (by simp [hx]) (by simp [c])
theorem ty_ll (xs : List PV) : isTy (.lst xs) .list = true := rfl
theorem ty_tt (xs : List PV) : isTy (.tup xs) .tuple = true := rfl
theorem is_seq_lst (xs : List PV) : m_is_sequence [.val (.lst xs)] = .ok (.v (.bl true)) [.val (.lst xs)] := by
  rw [em_is_sequence]
  simp [enter, ty_ll, ty_tt]
theorem is_seq_tup (xs : List PV) : m_is_sequence [.val (.tup xs)] = .ok (.v (.bl true)) [.val (.tup xs)] := by
  rw [em_is_sequence]
  simp [enter, ty_ll, ty_tt]
theorem among_ok {n : Str} {k : Bool} {vs : List PV} (hn : isName (.str n) = true) (an : Ask (.str n)) (hv : ∀ v ∈ vs, VK k v) (h1 : 1 ≤ vs.length) (h2 : vs.length ≤ 8) :
    m_among [.val (.str n), .val (.lst vs)] = .ok (.v (TT.at (Str.ofString "among") [.str n, .tup vs]).pv) [.val (.str n), .val (.lst vs)] := by
  have a := p_isname an
  rw [hn] at a
  obtain ⟨y, e⟩ := among_loop (s0 := .val (.str n)) (s1 := .val (.lst vs)) vs .non hv rfl
  have b := is_seq_lst vs
  have sz : vs.length ≤ sizeLine := nat_le (by omega)
  have i1 : (1 : Int) ≤ (vs.length : Int) := by omega
  have i2 : (vs.length : Int) ≤ 8 := by omega
  rw [em_among]
  simp [enter, a, b, sz, i1, i2, e, mk_test, two_le, TT.pv]

/-! ### the law's tests -/
theorem ColsOk.name {cs : List Col} (h : ColsOk cs) {c : Str} {k f : Bool} (hc : (c, k, f) ∈ cs) : isName (.str c) = true := (h.nm _ hc).name (h.nk _ hc)
theorem ColsOk.ask {cs : List Col} (h : ColsOk cs) {c : Str} {k f : Bool} (hc : (c, k, f) ∈ cs) : Ask (.str c) := (h.nm _ hc).ask (by decide)
theorem lim_no {t : TT} (h : t.Ok) (as : List Slot) : limF t as = .ok (.v t.pv) as := by
  unfold limF
  have h1 := h.a
  have h2 := h.l
  rw [if_neg (by omega), if_neg (by omega)]
theorem ix2c (x y z : PV) (xs : List PV) : atI (x :: y :: z :: xs) 2 = some z := by
  unfold atI ixN
  rw [if_pos (by decide), if_pos (by simp; omega)]
  rfl
theorem ix3c (x y z u : PV) (xs : List PV) : atI (x :: y :: z :: u :: xs) 3 = some u := by
  unfold atI ixN
  rw [if_pos (by decide), if_pos (by simp; omega)]
  rfl
theorem ix4c (x y z u w : PV) (xs : List PV) : atI (x :: y :: z :: u :: w :: xs) 4 = some w := by
  unfold atI ixN
  rw [if_pos (by decide), if_pos (by simp; omega)]
  rfl
theorem TT.Ok.un {k : Str} {a : TT} (h : (TT.un k a).Ok) : a.Ok := ⟨h.a, by have := h.l; rw [TT.lev] at this; omega⟩
theorem TT.Ok.bi1 {k : Str} {a b : TT} (h : (TT.bi k a b).Ok) : a.Ok := ⟨by have := h.a; rw [TT.atoms, List.length_append] at this; omega, by have := h.l; rw [TT.lev] at this; omega⟩
theorem TT.Ok.bi2 {k : Str} {a b : TT} (h : (TT.bi k a b).Ok) : b.Ok := ⟨by have := h.a; rw [TT.atoms, List.length_append] at this; omega, by have := h.l; rw [TT.lev] at this; omega⟩
theorem Fm.Fine.tok {cs : List Col} {f : Fm} (h : f.Fine cs) (hn : f.ats.length ≤ 6) : f.tt.Ok := ⟨by rw [f.na]; omega, by rw [f.lev]; have := h.lv; omega⟩
def words : List Str := [wAnd, wOr, wNot, wSure, Str.ofString "always", Str.ofString "never", Str.ofString "empty", Str.ofString "among", Str.ofString "begins", Str.ofString "compare", Str.ofString "against"]
theorem make_ok {cs : List Col} (hc : ColsOk cs) : ∀ (f : Fm) (n : Nat), f.Ok cs → f.tt.Ok → f.lv < n → m__law_make n [.val f.fp] = .ok (.v f.tt.pv) [.val f.fp]
  | f, 0, _, _, h => by omega
  | .at a, n + 1, h, _, _ => by
    rw [em__law_make]
    cases a with
    | always => simp [enter, Fm.fp, Fm.tt, At.fp, At.kd, At.rest, At.dt, ix0c, always_ok]
    | never => simp [enter, Fm.fp, Fm.tt, At.fp, At.kd, At.rest, At.dt, ix0c, never_ok]
    | empty c =>
      obtain ⟨k, f, hm⟩ := h
      have e := empty_ok (hc.name hm) (hc.ask hm)
      simp [enter, Fm.fp, Fm.tt, At.fp, At.kd, At.rest, At.dt, ix0c, ix1c, e]
    | among c vs =>
      obtain ⟨k, f, hm, hv, h1, h2⟩ := h
      have e := among_ok (hc.name hm) (hc.ask hm) hv h1 h2
      have sz : vs.length ≤ sizeLine := nat_le (by omega)
      simp [enter, Fm.fp, Fm.tt, At.fp, At.kd, At.rest, At.dt, ix0c, ix1c, ix2c, e, sz]
    | begins c p =>
      obtain ⟨f, hm, hp⟩ := h
      have e := begins_ok (hc.name hm) (hc.ask hm) hp
      simp [enter, Fm.fp, Fm.tt, At.fp, At.kd, At.rest, At.dt, ix0c, ix1c, ix2c, e]
    | compare c op v =>
      obtain ⟨k, f, hm, hp, hv⟩ := h
      have e := compare_ok (hc.name hm) (hc.ask hm) hp hv.knn hv.ask
      simp [enter, Fm.fp, Fm.tt, At.fp, At.kd, At.rest, At.dt, ix0c, ix1c, ix2c, ix3c, e]
    | against c op o m =>
      obtain ⟨k, f, g, hm, hm2, hne, hp, hk⟩ := h
      have e := fun m => against_ok (m := m) (hc.name hm) (hc.ask hm) hp (hc.name hm2) (hc.ask hm2) hne
      by_cases h0 : m = 0
      · subst h0
        have e0 := e 0
        simp [enter, Fm.fp, Fm.tt, At.fp, At.kd, At.rest, At.dt, ix0c, ix1c, ix2c, ix3c, ix4c, e0]
      · simp [enter, Fm.fp, Fm.tt, At.fp, At.kd, At.rest, At.dt, ix0c, ix1c, ix2c, ix3c, ix4c, e, h0]
  | .un b f, n + 1, h, hk, hl => by
    have e := make_ok hc f n h hk.un (by rw [Fm.lv] at hl; omega)
    rw [em__law_make]
    cases b with
    | true =>
      have i := inv_ok (a := f.tt) hk.un
      rw [lim_no (t := .un (Str.ofString "not") f.tt) hk] at i
      have w : wU true = Str.ofString "not" := rfl
      rw [f.tt.pv_is] at e i
      simp [enter, Fm.fp, Fm.tt, w, ix0c, ix1c, e, i]
    | false =>
      have i := sure_ok (a := f.tt) hk.un
      rw [lim_no (t := .un (Str.ofString "sure") f.tt) hk] at i
      have w : wU false = Str.ofString "sure" := rfl
      rw [f.tt.pv_is] at e i
      simp [enter, Fm.fp, Fm.tt, w, ix0c, ix1c, e, i]
  | .bi b f g, n + 1, h, hk, hl => by
    have e1 := make_ok hc f n h.1 hk.bi1 (by rw [Fm.lv] at hl; omega)
    have e2 := make_ok hc g n h.2 hk.bi2 (by rw [Fm.lv] at hl; omega)
    rw [em__law_make]
    cases b with
    | true =>
      have i := and_ok (a := f.tt) (b := g.tt) hk.bi1 hk.bi2
      rw [lim_no (t := .bi (Str.ofString "and") f.tt g.tt) hk] at i
      have w : wB true = Str.ofString "and" := rfl
      rw [f.tt.pv_is] at e1 i
      rw [g.tt.pv_is] at e2 i
      simp [enter, Fm.fp, Fm.tt, w, ix0c, ix1c, ix2c, e1, e2, i]
    | false =>
      have i := or_ok (a := f.tt) (b := g.tt) hk.bi1 hk.bi2
      rw [lim_no (t := .bi (Str.ofString "or") f.tt g.tt) hk] at i
      have w : wB false = Str.ofString "or" := rfl
      rw [f.tt.pv_is] at e1 i
      rw [g.tt.pv_is] at e2 i
      simp [enter, Fm.fp, Fm.tt, w, ix0c, ix1c, ix2c, e1, e2, i]
end Gk

set_option Elab.async false
set_option linter.all false
set_option maxRecDepth 100000
namespace Gk
open PySem PySem.Spec L2 TR
set_option autoImplicit false
/-! ### sorted_plain -/
section
variable {α : Type} (f : α → PV) (lt : α → α → Bool)
def leO (a b : α) : Prop := lt b a = false
structure OrdO : Prop where
  tr : ∀ a b c, lt b a = false → lt c b = false → lt c a = false
  as : ∀ a b, lt a b = true → lt b a = false
noncomputable abbrev wSP : SM := whM (andM (asB (binN pyGt 3 (cst (.int 0)))) (asB (binN pyLt 2 (binN pyIx 1 (binN pySub 3 (cst (.int 1))))))) q_sorted_plain_5
variable {f lt}
theorem ixR {rs : List α} {i : Nat} (h : i < rs.length) : pyIx (.lst (rs.map f)) (.int i) = some (f rs[i]) := by
  show atI _ _ = _
  unfold atI ixN
  rw [if_pos (by omega), if_pos (by simp; omega)]
  simp [h]
theorem sp_while {s0 : Slot} {x : α} {rs : List α} (hx : ∀ y ∈ rs, pyLt (f x) (f y) = some (.bl (lt x y))) (hz : rs.length ≤ 1000) : ∀ k : Nat, k ≤ rs.length →
    ∃ j : Nat, j ≤ k ∧ wSP [s0, .own false (.lst (rs.map f)), .val (f x), .val (.int k)] = .nxt [s0, .own false (.lst (rs.map f)), .val (f x), .val (.int j)] ∧ (∀ (i : Nat) (h : i < rs.length), j ≤ i → i < k → lt x rs[i] = true) ∧ (∀ h : j - 1 < rs.length, 0 < j → lt x rs[j - 1] = false)
  | 0, h => ⟨0, Nat.le_refl _, whM_f (by simp), fun i _ h1 h2 => by omega, fun _ h => by omega⟩
  | k + 1, h => by
    have hk : k < rs.length := by omega
    have i1 := ixR (f := f) hk
    have hl := hx rs[k] (List.getElem_mem hk)
    have e1 : (((k + 1 : Nat)) : Int) - 1 = (k : Int) := by omega
    have p1 : (0 : Int) < (((k + 1 : Nat)) : Int) := by omega
    cases c : lt x rs[k] with
    | false =>
      rw [c] at hl
      refine ⟨k + 1, Nat.le_refl _, whM_f (ρ := _) ?_, fun i _ h1 h2 => by omega, fun _ _ => c⟩
      generalize ((k + 1 : Nat) : Int) = K at *
      simp [p1, e1, i1, hl]
    | true =>
      rw [c] at hl
      obtain ⟨j, h1, h2, h3, h4⟩ := sp_while (s0 := s0) hx hz k (by omega)
      refine ⟨j, by omega, ?_, fun i hi hj hi2 => ?_, h4⟩
      · rw [← h2]
        generalize hK : ((k + 1 : Nat) : Int) = K at *
        exact whM_t (ρ1 := [s0, .own false (.lst (rs.map f)), .val (f x), .val (.int K)]) (by simp [p1, e1, i1, hl]) (by simp [e1])
      · by_cases hik : i = k
        · subst hik; exact c
        · exact h3 i hi hj (by omega)
theorem ins_sorted (hO : OrdO lt) {x : α} {rs : List α} {j : Nat} (hj : j ≤ rs.length) (hs : rs.Pairwise (leO lt)) (h3 : ∀ (i : Nat) (h : i < rs.length), j ≤ i → i < rs.length → lt x rs[i] = true) (h4 : ∀ h : j - 1 < rs.length, 0 < j → lt x rs[j - 1] = false) :
    (rs.take j ++ [x] ++ rs.drop j).Pairwise (leO lt) := by
  have h5 : ∀ y ∈ rs.drop j, leO lt x y := fun y hy => by
    obtain ⟨i, hi, rfl⟩ := List.mem_iff_getElem.mp hy
    rw [List.getElem_drop]
    rw [List.length_drop] at hi
    exact hO.as _ _ (h3 (j + i) (by omega) (by omega) (by omega))
  have h6 : ∀ y ∈ rs.take j, leO lt y x := fun y hy => by
    obtain ⟨i, hi, rfl⟩ := List.mem_iff_getElem.mp hy
    rw [List.length_take] at hi
    rw [List.getElem_take]
    have g := h4 (by omega) (by omega)
    by_cases e : i = j - 1
    · subst e; exact g
    · have := List.pairwise_iff_getElem.mp hs i (j - 1) (by omega) (by omega) (by omega)
      exact hO.tr _ _ _ this g
  rw [List.append_assoc, List.pairwise_append]
  refine ⟨hs.sublist (List.take_sublist _ _), ?_, fun a ha b hb => ?_⟩
  · rw [List.singleton_append, List.pairwise_cons]
    exact ⟨h5, hs.sublist (List.drop_sublist _ _)⟩
  · rcases List.mem_cons.mp hb with rfl | hb
    · exact h6 a ha
    · exact hO.tr _ _ _ (h6 a ha) (h5 b hb)
theorem ins_perm (x : α) (rs : List α) (j : Nat) : (rs.take j ++ [x] ++ rs.drop j).Perm (x :: rs) := by
  rw [List.append_assoc, List.singleton_append]
  refine List.perm_middle.trans ?_
  rw [List.take_append_drop]
theorem sp_loop (hO : OrdO lt) {s0 : Slot} : ∀ (xs : List α) (rs : List α) (x2 x3 : Slot), (∀ x ∈ xs, ∀ y, (y ∈ rs ∨ y ∈ xs) → pyLt (f x) (f y) = some (.bl (lt x y))) → rs.Pairwise (leO lt) → rs.length + xs.length ≤ 1000 → mp (some x2) = true → mp (some x3) = true →
    ∃ (ys : List α) (y2 y3 : Slot), frL (tgN 2) (seqM q_sorted_plain_3 (seqM q_sorted_plain_4 q_sorted_plain_6)) (xs.map f) [s0, .own false (.lst (rs.map f)), x2, x3] = .nxt [s0, .own false (.lst (ys.map f)), y2, y3] ∧ ys.Perm (xs ++ rs) ∧ ys.Pairwise (leO lt)
  | [], rs, x2, x3, _, hs, _, _, _ => ⟨rs, x2, x3, by rw [List.map_nil, frL], .refl _, hs⟩
  | x :: xs, rs, x2, x3, hx, hs, hl, h2, h3 => by
    simp only [List.length_cons] at hl
    obtain ⟨j, g1, g2, g3, g4⟩ := sp_while (f := f) (lt := lt) (s0 := s0) (x := x) (rs := rs) (fun y hy => hx x List.mem_cons_self y (.inl hy)) (by omega) rs.length (Nat.le_refl _)
    have hp := ins_perm x rs j
    obtain ⟨ys, y2, y3, e, p, q⟩ := sp_loop hO (s0 := s0) xs (rs.take j ++ [x] ++ rs.drop j) (.val (f x)) (.val (.int j)) (fun z hz y hy => hx z (List.mem_cons_of_mem _ hz) y (by
      rcases hy with hy | hy
      · rcases List.mem_cons.mp (hp.mem_iff.mp hy) with rfl | hy
        · exact .inr List.mem_cons_self
        · exact .inl hy
      · exact .inr (List.mem_cons_of_mem _ hy))) (ins_sorted hO (by omega) hs g3 g4) (by rw [hp.length_eq]; simp; omega) rfl rfl
    refine ⟨ys, y2, y3, ?_, p.trans ?_, q⟩
    · rw [← e, List.map_cons]
      refine frL_step (ρ1 := [s0, .own false (.lst (rs.map f)), .val (f x), x3]) (by simp [h2]) ?_
      have sz : rs.length ≤ sizeLine := nat_le (by omega)
      have sz2 : rs.length < sizeLine := nat_lt (by omega)
      have li : lInsert (rs.map f) [.int j, f x] = some (.non, (rs.take j ++ [x] ++ rs.drop j).map f) := by
        show (if _ then _ else _) = _
        rw [if_pos ⟨by simpa using sz2, by omega, by omega⟩]
        simp [List.map_take, List.map_drop]
      simp [sz, h3, g2, li]
    · refine (List.Perm.append_left xs hp).trans ?_
      exact List.perm_middle
theorem sorted_plain_ok (hO : OrdO lt) {xs : List α} (hx : ∀ x ∈ xs, ∀ y ∈ xs, pyLt (f x) (f y) = some (.bl (lt x y))) (hl : xs.length ≤ 1000) :
    ∃ ys : List α, m_sorted_plain [.val (.lst (xs.map f))] = .ok (.o (.lst (ys.map f))) [.val (.lst (xs.map f))] ∧ ys.Perm xs ∧ ys.Pairwise (leO lt) := by
  obtain ⟨ys, y2, y3, e, p, q⟩ := sp_loop (f := f) hO (s0 := .val (.lst (xs.map f))) xs [] .non .non (fun x hx' y hy => hx x hx' y (by
    rcases hy with hy | hy
    · cases hy
    · exact hy)) .nil (by simpa using hl) rfl rfl
  refine ⟨ys, ?_, by simpa using p, q⟩
  rw [em_sorted_plain]
  simp only [List.map_nil] at e
  simp [enter, e]
end
def ltS (a b : Str) : Bool := decide (a.cps.toList < b.cps.toList)
theorem ltS_ord : OrdO ltS := ⟨fun a b c h k => by
    unfold ltS at *
    simp only [decide_eq_false_iff_not, List.not_lt] at *
    exact List.le_trans h k, fun a b h => by
    unfold ltS at *
    simp only [decide_eq_true_eq, decide_eq_false_iff_not] at *
    exact List.lt_asymm h⟩
theorem sort_strs {xs : List Str} (hl : xs.length ≤ 1000) : m_sorted_plain [.val (.lst (xs.map .str))] = .ok (.o (.lst ((sortS xs).map .str))) [.val (.lst (xs.map .str))] := by
  obtain ⟨ys, e, p, q⟩ := sorted_plain_ok (f := PV.str) ltS_ord (xs := xs) (fun x _ y _ => rfl) hl
  rw [e]
  have : ys = sortS xs := by
    refine (p.trans (sortS_perm xs).symm).eq_of_pairwise (le := fun a b => leS a b = true) (fun a b _ _ h k => leS_anti h k) (q.imp fun {a b} h => ?_) (sortS_sorted xs)
    have h' : ltS b a = false := h
    unfold ltS at h'
    unfold leS
    rw [h']
    rfl
  rw [this]
end Gk

set_option Elab.async false
set_option linter.all false
set_option maxRecDepth 100000
namespace Gk
open PySem PySem.Spec L2 TR
set_option autoImplicit false
theorem t_data (k : Str) (d p : PV) : m_Test__data [.val (.obj 3 (testO k d p))] = .ok (.v d) [.val (.obj 3 (testO k d p))] := by
  rw [em_Test__data]
  simp [enter, lk_data]

theorem t_parts (k : Str) (d : PV) (ps : List PV) : m_Test__parts [.val (.obj 3 (testO k d (.tup ps)))] = .ok (.o (.lst ps)) [.val (.obj 3 (testO k d (.tup ps)))] := by
  rw [em_Test__parts]
  simp [enter, lk_parts]

/-! ### the names of a form and of a test -/
def At.nms : At → List Str
  | .always => []
  | .never => []
  | .empty c => [c]
  | .among c _ => [c]
  | .begins c _ => [c]
  | .against c _ o _ => [c, o]
  | .compare c _ _ => [c]
def ded : List Str → List Str → List Str
  | acc, [] => acc
  | acc, n :: ns => ded (if n ∈ acc then acc else acc ++ [n]) ns
theorem ded_len : ∀ (ns acc : List Str), (ded acc ns).length ≤ acc.length + ns.length
  | [], acc => Nat.le_refl _
  | n :: ns, acc => by
    rw [ded]
    refine Nat.le_trans (ded_len ns _) ?_
    split <;> simp <;> omega
theorem ded_mem : ∀ (ns acc : List Str) (x : Str), x ∈ ded acc ns ↔ x ∈ acc ∨ x ∈ ns
  | [], acc, x => by simp [ded]
  | n :: ns, acc, x => by
    rw [ded, ded_mem ns _ x]
    split
    · rename_i h
      constructor
      · rintro (h1 | h1)
        · exact .inl h1
        · exact .inr (List.mem_cons_of_mem _ h1)
      · rintro (h1 | h1)
        · exact .inl h1
        · rcases List.mem_cons.mp h1 with rfl | h1
          · exact .inl h
          · exact .inr h1
    · rw [List.mem_append, List.mem_singleton, List.mem_cons, or_assoc]
theorem ded_app : ∀ (as bs acc : List Str), ded acc (as ++ bs) = ded (ded acc as) bs
  | [], bs, acc => rfl
  | a :: as, bs, acc => by rw [List.cons_append, ded, ded, ded_app as bs]
def Fm.nms (f : Fm) : List Str := ded [] (f.ats.flatMap At.nms)
theorem At.nms_len (a : At) : a.nms.length ≤ 2 := by cases a <;> simp [At.nms]
theorem flat_len : ∀ as : List At, (as.flatMap At.nms).length ≤ 2 * as.length
  | [] => Nat.le_refl _
  | a :: as => by
    have := flat_len as
    have h := a.nms_len
    rw [List.flatMap_cons, List.length_append, List.length_cons]
    omega
theorem Fm.nms_len (f : Fm) : f.nms.length ≤ 2 * f.ats.length := Nat.le_trans (ded_len _ _) (by simpa using flat_len f.ats)
/-- each name of an atom is a column -/
theorem At.col {cs : List Col} {a : At} (h : a.Ok cs) : ∀ n ∈ a.nms, ∃ k f, (n, k, f) ∈ cs := by
  cases a with
  | always => intro n hn; cases hn
  | never => intro n hn; cases hn
  | empty c => obtain ⟨k, f, hm⟩ := h; intro n hn; rw [show n = c by simpa [At.nms] using hn]; exact ⟨k, f, hm⟩
  | among c vs => obtain ⟨k, f, hm, _⟩ := h; intro n hn; rw [show n = c by simpa [At.nms] using hn]; exact ⟨k, f, hm⟩
  | begins c p => obtain ⟨f, hm, _⟩ := h; intro n hn; rw [show n = c by simpa [At.nms] using hn]; exact ⟨true, f, hm⟩
  | compare c op v => obtain ⟨k, f, hm, _⟩ := h; intro n hn; rw [show n = c by simpa [At.nms] using hn]; exact ⟨k, f, hm⟩
  | against c op o m =>
    obtain ⟨k, f, g, hm, hm2, _⟩ := h
    intro n hn
    rcases (show n = c ∨ n = o by simpa [At.nms] using hn) with rfl | rfl
    · exact ⟨k, f, hm⟩
    · exact ⟨k, g, hm2⟩
theorem Fm.ats_ok {cs : List Col} : ∀ {f : Fm}, f.Ok cs → ∀ a ∈ f.ats, a.Ok cs
  | .at a, h, b, hb => by
    rw [Fm.ats, List.mem_singleton] at hb
    rw [hb]; exact h
  | .un _ f, h, b, hb => Fm.ats_ok (f := f) h b hb
  | .bi _ f g, h, b, hb => by
    rw [Fm.ats] at hb
    rcases List.mem_append.mp hb with hb | hb
    · exact Fm.ats_ok (f := f) h.1 b hb
    · exact Fm.ats_ok (f := g) h.2 b hb
theorem ColsOk.uni {cs : List Col} (h : ColsOk cs) {n : Str} (hn : ∃ k f, (n, k, f) ∈ cs) : Uni n := by
  obtain ⟨k, f, hm⟩ := hn
  exact (h.nm _ hm).uni
theorem Fm.nms_col {cs : List Col} {f : Fm} (h : f.Ok cs) : ∀ n ∈ f.nms, ∃ k g, (n, k, g) ∈ cs := by
  intro n hn
  rcases (ded_mem _ _ n).mp hn with hn | hn
  · cases hn
  · obtain ⟨a, ha, hn⟩ := List.mem_flatMap.mp hn
    exact At.col (Fm.ats_ok h a ha) n hn
theorem sv_mp {x : Slot} (h : sv (some x) = true) : mp (some x) = true := by
  cases x with
  | own b m => cases h
  | _ => rfl
theorem dd_loop {body : SM} (hb : body = ifM (asB (binN pyNotIn 3 (peek 1))) (exprM (methM lAppend 1 (argV (getv 3) argNil))) skipM) {s0 s2 : Slot} : ∀ (ns acc : List Str) (x3 : Slot), (∀ n ∈ ns, Uni n) → (∀ n ∈ acc, Uni n) → acc.length + ns.length ≤ 1000 → sv (some x3) = true →
    ∃ y3, frL (tgN 3) body (ns.map .str) [s0, .own false (.lst (acc.map .str)), s2, x3] = .nxt [s0, .own false (.lst ((ded acc ns).map .str)), s2, y3] ∧ sv (some y3) = true
  | [], acc, x3, _, _, _, h3 => ⟨x3, by rw [List.map_nil, frL]; rfl, h3⟩
  | n :: ns, acc, x3, h, ha, hl, h3 => by
    simp only [List.length_cons] at hl
    have hn : pyNotIn (.str n) (.lst (acc.map .str)) = some (.bl (!decide (n ∈ acc))) := by
      unfold pyNotIn
      rw [inQ_lst (h n List.mem_cons_self) ha]
      rfl
    have ha2 : ∀ m ∈ (if n ∈ acc then acc else acc ++ [n]), Uni m := by
      intro m hm
      split at hm
      · exact ha m hm
      · rcases List.mem_append.mp hm with hm | hm
        · exact ha m hm
        · rw [List.mem_singleton] at hm
          rw [hm]
          exact h n List.mem_cons_self
    obtain ⟨y3, e, h4⟩ := dd_loop hb (s0 := s0) (s2 := s2) ns (if n ∈ acc then acc else acc ++ [n]) (.val (.str n)) (fun m hm => h m (List.mem_cons_of_mem _ hm)) ha2 (by
      split
      · omega
      · rw [List.length_append, List.length_singleton]; omega) rfl
    refine ⟨y3, ?_, h4⟩
    rw [ded, ← e, List.map_cons]
    refine frL_step (ρ1 := [s0, .own false (.lst (acc.map .str)), s2, .val (.str n)]) (by simp [sv_mp h3]) ?_
    subst hb
    have sz : acc.length < sizeLine := nat_lt (by omega)
    by_cases c : n ∈ acc
    · simp [hn, c]
    · simp [hn, c, sz]
theorem atom_names_ok (a : At) : m__law_atom_names [.val a.fp] = .ok (.o (.lst (a.nms.map .str))) [.val a.fp] := by
  have s5 : 5 ≤ sizeLine := nat_le (by decide)
  have s4 : 4 ≤ sizeLine := nat_le (by decide)
  rw [em__law_atom_names]
  cases a <;> simp [enter, At.fp, At.kd, At.rest, At.nms, one_le, two_le, three_le, s4, s5, ix0c, ix1c, ix3c]
theorem columns_ok' (a : At) : m_columns_of [.val (TT.at a.kd a.dt).pv] = .ok (.o (.lst (a.nms.map .str))) [.val (TT.at a.kd a.dt).pv] ∨ m_columns_of [.val (TT.at a.kd a.dt).pv] = .ok (.v (.lst (a.nms.map .str))) [.val (TT.at a.kd a.dt).pv] := by
  have k := t_kind a.kd (.tup a.dt) (.tup [])
  have d := t_data a.kd (.tup a.dt) (.tup [])
  rw [em_columns_of]
  cases a with
  | against c op o m =>
    refine .inl ?_
    simp only [At.kd, At.dt, At.rest] at k d
    simp [enter, At.kd, At.dt, At.rest, At.nms, TT.pv, k, d, lk_mkind, lk_mdata, ix0c, ix2c, two_le]
  | always | never | empty | among | begins | compare =>
    refine .inr ?_
    simp only [At.kd, At.dt, At.rest] at k d
    simp [enter, At.kd, At.dt, At.rest, At.nms, TT.pv, k, d, lk_mkind, lk_mdata, ix0c, one_le]
theorem atoms_ok : ∀ (f : Fm) (n : Nat), f.lv < n → f.ats.length ≤ 1000 → m__law_atoms n [.val f.fp] = .ok (.o (.lst (f.ats.map At.fp))) [.val f.fp] ∨ m__law_atoms n [.val f.fp] = .ok (.v (.lst (f.ats.map At.fp))) [.val f.fp]
  | f, 0, h, _ => by omega
  | .at a, n + 1, _, _ => by
    refine .inl ?_
    rw [em__law_atoms]
    cases a <;> simp [enter, Fm.fp, Fm.ats, At.fp, At.kd, At.rest, ix0c, one_le]
  | .un b f, n + 1, h, hl => by
    have e := atoms_ok f n (by rw [Fm.lv] at h; omega) hl
    refine .inr ?_
    rw [em__law_atoms]
    cases b with
    | true =>
      have w : wU true = Str.ofString "not" := rfl
      rcases e with e | e <;> simp [enter, Fm.fp, Fm.ats, w, ix0c, ix1c, e]
    | false =>
      have w : wU false = Str.ofString "sure" := rfl
      rcases e with e | e <;> simp [enter, Fm.fp, Fm.ats, w, ix0c, ix1c, e]
  | .bi b f g, n + 1, h, hl => by
    rw [Fm.ats, List.length_append] at hl
    have e1 := atoms_ok f n (by rw [Fm.lv] at h; omega) (by omega)
    have e2 := atoms_ok g n (by rw [Fm.lv] at h; omega) (by omega)
    have ad := add_ll (f.ats.map At.fp) (g.ats.map At.fp) (nat_le (by simp; omega))
    refine .inr ?_
    rw [em__law_atoms]
    cases b with
    | true =>
      have w : wB true = Str.ofString "and" := rfl
      rcases e1 with e1 | e1 <;> rcases e2 with e2 | e2 <;> simp [enter, Fm.fp, Fm.ats, w, ix0c, ix1c, ix2c, e1, e2, ad]
    | false =>
      have w : wB false = Str.ofString "or" := rfl
      rcases e1 with e1 | e1 <;> rcases e2 with e2 | e2 <;> simp [enter, Fm.fp, Fm.ats, w, ix0c, ix1c, ix2c, e1, e2, ad]
theorem lnames_loop {cs : List Col} (hc : ColsOk cs) {s0 : Slot} : ∀ (as : List At) (acc : List Str) (x2 x3 : Slot), (∀ a ∈ as, a.Ok cs) → (∀ n ∈ acc, Uni n) → acc.length + 2 * as.length ≤ 1000 → mp (some x2) = true → sv (some x3) = true →
    ∃ y2 y3, frL (tgN 2) q__law_names_3 (as.map At.fp) [s0, .own false (.lst (acc.map .str)), x2, x3] = .nxt [s0, .own false (.lst ((ded acc (as.flatMap At.nms)).map .str)), y2, y3] ∧ sv (some y3) = true
  | [], acc, x2, x3, _, _, _, _, h3 => ⟨x2, x3, by rw [List.map_nil, frL]; rfl, h3⟩
  | a :: as, acc, x2, x3, h, ha, hl, h2, h3 => by
    simp only [List.length_cons] at hl
    have hn := a.nms_len
    have hu : ∀ n ∈ a.nms, Uni n := fun n hn => hc.uni (At.col (h a List.mem_cons_self) n hn)
    obtain ⟨y3, e, h4⟩ := dd_loop (body := q__law_names_4) rfl (s0 := s0) (s2 := .val a.fp) a.nms acc x3 hu ha (by omega) h3
    have hdl := ded_len a.nms acc
    obtain ⟨z2, z3, e2, h5⟩ := lnames_loop hc (s0 := s0) as (ded acc a.nms) (.val a.fp) y3 (fun b hb => h b (List.mem_cons_of_mem _ hb)) (fun n hn => by
      rcases (ded_mem _ _ n).mp hn with hn | hn
      · exact ha n hn
      · exact hu n hn) (by omega) rfl h4
    refine ⟨z2, z3, ?_, h5⟩
    rw [List.flatMap_cons, ded_app, ← e2, List.map_cons]
    have c := atom_names_ok a
    exact frL_step (ρ1 := [s0, .own false (.lst (acc.map .str)), .val a.fp, x3]) (by simp [h2]) (by simp [c, e])
theorem tnames_loop {cs : List Col} (hc : ColsOk cs) {s0 : Slot} : ∀ (as : List At) (acc : List Str) (x2 x3 : Slot), (∀ a ∈ as, a.Ok cs) → (∀ n ∈ acc, Uni n) → acc.length + 2 * as.length ≤ 1000 → mp (some x2) = true → sv (some x3) = true →
    ∃ y2 y3, frL (tgN 2) q_Test__names_3 (as.map fun a => (TT.at a.kd a.dt).pv) [s0, .own false (.lst (acc.map .str)), x2, x3] = .nxt [s0, .own false (.lst ((ded acc (as.flatMap At.nms)).map .str)), y2, y3] ∧ sv (some y3) = true
  | [], acc, x2, x3, _, _, _, _, h3 => ⟨x2, x3, by rw [List.map_nil, frL]; rfl, h3⟩
  | a :: as, acc, x2, x3, h, ha, hl, h2, h3 => by
    simp only [List.length_cons] at hl
    have hn := a.nms_len
    have hu : ∀ n ∈ a.nms, Uni n := fun n hn => hc.uni (At.col (h a List.mem_cons_self) n hn)
    obtain ⟨y3, e, h4⟩ := dd_loop (body := q_Test__names_4) rfl (s0 := s0) (s2 := .val (TT.at a.kd a.dt).pv) a.nms acc x3 hu ha (by omega) h3
    have hdl := ded_len a.nms acc
    obtain ⟨z2, z3, e2, h5⟩ := tnames_loop hc (s0 := s0) as (ded acc a.nms) (.val (TT.at a.kd a.dt).pv) y3 (fun b hb => h b (List.mem_cons_of_mem _ hb)) (fun n hn => by
      rcases (ded_mem _ _ n).mp hn with hn | hn
      · exact ha n hn
      · exact hu n hn) (by omega) rfl h4
    refine ⟨z2, z3, ?_, h5⟩
    rw [List.flatMap_cons, ded_app, ← e2, List.map_cons]
    have c := columns_ok' a
    rcases c with c | c
    · exact frL_step (ρ1 := [s0, .own false (.lst (acc.map .str)), .val (TT.at a.kd a.dt).pv, x3]) (by simp [h2]) (by simp [c, e])
    · exact frL_step (ρ1 := [s0, .own false (.lst (acc.map .str)), .val (TT.at a.kd a.dt).pv, x3]) (by simp [h2]) (by simp [c, e])
theorem strs_loop {s0 s1 s2 s3 : Slot} : ∀ (ns acc : List Str), acc.length + ns.length ≤ 1000 →
    cmpL [3] (tgN 3) noT (callB bStr (argN 3 argNil)) (ns.map .str) (acc.map .str) [s0, s1, s2, s3] = .ok ((acc ++ ns).map .str) [s0, s1, s2, s3]
  | [], acc, _ => by simp
  | n :: ns, acc, h => by
    simp only [List.length_cons] at h
    have e := strs_loop (s0 := s0) (s1 := s1) (s2 := s2) (s3 := s3) ns (acc ++ [n]) (by simp; omega)
    have sz : acc.length < sizeLine := nat_lt (by omega)
    rw [List.map_cons, cmpL]
    simp only [List.map_append, List.map_cons, List.map_nil] at e
    simp [noT, noX, sz, e]
theorem names_ok {cs : List Col} (hc : ColsOk cs) {f : Fm} (h : f.Ok cs) (hl : f.lv < 40) (ha : f.ats.length ≤ 30) : m__law_names [.val f.fp] = .ok (.v (.lst ((sortS f.nms).map .str))) [.val f.fp] := by
  have e1 := atoms_ok f 40 hl (by omega)
  obtain ⟨y2, y3, e2, h3⟩ := lnames_loop hc (s0 := .val f.fp) f.ats [] .non .non (Fm.ats_ok h) (by intro n hn; cases hn) (by simp; omega) rfl rfl
  have hn := f.nms_len
  have e3 := fun (x y : Slot) => strs_loop (s0 := .val f.fp) (s1 := .val (.lst (f.nms.map .str))) (s2 := x) (s3 := y) f.nms [] (by simp; omega)
  have hs : f.nms.length < 64 := by omega
  have so := sorted_lst f.nms
  rw [if_pos hs] at so
  simp only [List.map_nil, List.nil_append] at e2 e3
  rw [show ded [] (f.ats.flatMap At.nms) = f.nms from rfl] at e2
  rw [em__law_names]
  rcases e1 with e1 | e1
  · simp [enter, e1, e2, h3, e3, so]
  · simp [enter, e1, e2, h3, e3, so]
theorem tnames_ok {cs : List Col} (hc : ColsOk cs) {f : Fm} (h : f.Ok cs) (hl : f.lv < 40) (ha : f.ats.length ≤ 30) : m_Test__names [.val f.tt.pv] = .ok (.o (.lst ((sortS f.nms).map .str))) [.val f.tt.pv] := by
  have e1 := t_atoms f.tt 40 (by rw [f.lev]; exact hl) (by rw [f.na]; omega)
  obtain ⟨y2, y3, e2, h3⟩ := tnames_loop hc (s0 := .val f.tt.pv) f.ats [] .non .non (Fm.ats_ok h) (by intro n hn; cases hn) (by simp; omega) rfl rfl
  have hn := f.nms_len
  have so := sort_strs (xs := f.nms) (by omega)
  simp only [List.map_nil] at e2
  rw [show ded [] (f.ats.flatMap At.nms) = f.nms from rfl] at e2
  have em : f.tt.atoms.map TT.pv = f.ats.map fun a => (TT.at a.kd a.dt).pv := by rw [f.atoms, List.map_map]; rfl
  rw [em] at e1
  rw [em_Test__names]
  rw [f.tt.pv_is] at e1 e2 ⊢
  have lk := pv_lkatoms f.tt
  simp [enter, e1, lk, e2, so]
end Gk

set_option Elab.async false
set_option linter.all false
set_option maxRecDepth 100000
namespace Gk
open PySem PySem.Spec L2 TR
set_option autoImplicit false
/-! ### a test is equal to itself -/
def TT.Dt : TT → Prop
  | .at _ d => Dat 60 (.tup d)
  | .un _ a => a.Dt
  | .bi _ a b => a.Dt ∧ b.Dt
theorem eq_otup (c : Nat) (fs : List (Str × PV)) (r y : List PV) : pyEq (.tup (.obj c fs :: r)) (.tup y) = none := (rfl)
theorem eq_tup0 : pyEq (.tup []) (.tup []) = some (.bl true) := by
  rw [eq_dat (n := 1) (m := 1) (by simp) (by simp)]
  rfl
theorem isc_3 (fs : List (Str × PV)) : isCls [3] (.obj 3 fs) = true := rfl
theorem t_eq : ∀ (t : TT) (n : Nat), t.lev < n → t.Dt → m_Test____eq__ n [.val t.pv, .val t.pv] = .ok (.v (.bl true)) [.val t.pv, .val t.pv]
  | t, 0, h, _ => by omega
  | .at k d, n + 1, _, hd => by
    have e : pyEq (.tup d) (.tup d) = some (.bl true) := by
      rw [eq_dat (n := 60) (m := 60) hd hd, eqP_refl 60 _ hd]
    have k1 := t_kind k (.tup d) (.tup [])
    have k2 := t_data k (.tup d) (.tup [])
    have k3 := t_parts k (.tup d) []
    rw [em_Test____eq__]
    simp [enter, TT.pv, isc_3, lk_kind, lk_data, lk_parts, lk_mkind, lk_mdata, lk_mparts, k1, k2, k3, e, eq_tup0]
  | .un k a, n + 1, h, hd => by
    have ih := t_eq a n (by rw [TT.lev] at h; omega) hd
    have k1 := t_kind k (.tup []) (.tup [a.pv])
    have k2 := t_data k (.tup []) (.tup [a.pv])
    have k3 := t_parts k (.tup []) [a.pv]
    rw [em_Test____eq__]
    simp only [TT.pv]
    rw [a.pv_is] at *
    have so : sameO [(3, m_Test____eq__ n)] 0 (.tup [.obj 3 a.fs]) (.tup [.obj 3 a.fs]) = some (.bl true) := sameO_tup fun x hx => by
      rw [List.mem_singleton] at hx
      rw [hx]
      exact eqO_obj rfl ih
    simp [enter, isc_3, lk_kind, lk_data, lk_parts, lk_mkind, lk_mdata, lk_mparts, k1, k2, k3, eq_tup0, eq_otup, so, one_le]
  | .bi k a b, n + 1, h, hd => by
    have ih1 := t_eq a n (by rw [TT.lev] at h; omega) hd.1
    have ih2 := t_eq b n (by rw [TT.lev] at h; omega) hd.2
    have k1 := t_kind k (.tup []) (.tup [a.pv, b.pv])
    have k2 := t_data k (.tup []) (.tup [a.pv, b.pv])
    have k3 := t_parts k (.tup []) [a.pv, b.pv]
    rw [em_Test____eq__]
    simp only [TT.pv]
    rw [a.pv_is, b.pv_is] at *
    have so : sameO [(3, m_Test____eq__ n)] 0 (.tup [.obj 3 a.fs, .obj 3 b.fs]) (.tup [.obj 3 a.fs, .obj 3 b.fs]) = some (.bl true) := sameO_tup fun x hx => by
      rcases List.mem_cons.mp hx with rfl | hx
      · exact eqO_obj rfl ih1
      · rw [List.mem_singleton] at hx
        rw [hx]
        exact eqO_obj rfl ih2
    simp [enter, isc_3, lk_kind, lk_data, lk_parts, lk_mkind, lk_mdata, lk_mparts, k1, k2, k3, eq_tup0, eq_otup, so, two_le]
theorem VK.dat {k : Bool} {v : PV} (h : VK k v) (n : Nat) : Dat n v := by
  cases v with
  | int i => simp
  | str s => rw [Dat_str]; exact (h.2.st (by decide)).uni
  | _ => exact h.elim
theorem At.dat {cs : List Col} (hc : ColsOk cs) {a : At} (h : a.Ok cs) : Dat 60 (.tup a.dt) := by
  cases a with
  | always => simp [At.dt, At.rest]
  | never => simp [At.dt, At.rest]
  | empty c =>
    obtain ⟨k, f, hm⟩ := h
    simpa [At.dt, At.rest] using hc.uni ⟨k, f, hm⟩
  | among c vs =>
    obtain ⟨k, f, hm, hv, _, _⟩ := h
    simp only [At.dt, Dat_tup, Dats_cons, Dats_nil, Dat_str, and_true]
    exact ⟨hc.uni ⟨k, f, hm⟩, dats_iff.mpr fun x hx => (hv x hx).dat _⟩
  | begins c p =>
    obtain ⟨f, hm, hp⟩ := h
    simp only [At.dt, At.rest, Dat_tup, Dats_cons, Dats_nil, Dat_str, and_true]
    exact ⟨hc.uni ⟨true, f, hm⟩, (hp.st (by decide)).uni⟩
  | compare c op v =>
    obtain ⟨k, f, hm, hp, hv⟩ := h
    simp only [At.dt, At.rest, Dat_tup, Dats_cons, Dats_nil, Dat_str, and_true]
    exact ⟨hc.uni ⟨k, f, hm⟩, ops_uni op hp, hv.dat _⟩
  | against c op o m =>
    obtain ⟨k, f, g, hm, hm2, _, hp, _⟩ := h
    simp only [At.dt, At.rest, Dat_tup, Dats_cons, Dats_nil, Dat_str, Dat_int, and_true]
    exact ⟨hc.uni ⟨k, f, hm⟩, ops_uni op hp, hc.uni ⟨k, g, hm2⟩⟩
theorem Fm.dt {cs : List Col} (hc : ColsOk cs) : ∀ {f : Fm}, f.Ok cs → f.tt.Dt
  | .at _, h => At.dat hc h
  | .un _ f, h => Fm.dt hc (f := f) h
  | .bi _ f g, h => ⟨Fm.dt hc (f := f) h.1, Fm.dt hc (f := g) h.2⟩
theorem t_same {t : TT} (h : t.lev < 40) (hd : t.Dt) : sameO [(3, m_Test____eq__ 40)] 0 t.pv t.pv = some (.bl true) := by
  have e := t_eq t 40 h hd
  rw [t.pv_is] at *
  exact sameO_obj rfl e
theorem t_eqO {t : TT} (h : t.lev < 40) (hd : t.Dt) : pyEqO [(3, m_Test____eq__ 40)] 0 t.pv t.pv = some (.bl true) := by
  have e := t_same h hd
  unfold pyEqO
  rw [t.pv_is] at *
  rw [eq_oo, orS_none, e]
end Gk

set_option Elab.async false
set_option linter.all false
set_option maxRecDepth 100000
namespace Gk
open PySem PySem.Spec L2 TR
set_option autoImplicit false
/-! ### what the law and the test tell of their parts -/
def Fm.inn : Fm → List Fm
  | .at _ => []
  | .un _ f => [f]
  | .bi _ f g => [f, g]
def Fm.cj : Fm → List Fm
  | .bi true f g => f.cj ++ g.cj
  | f => [f]
theorem fp0 : ∀ f : Fm, pyIx f.fp (.int 0) = some (.str f.tt.kd)
  | .at a => ix0c _ _
  | .un _ _ => ix0c _ _
  | .bi _ _ _ => ix0c _ _
theorem pv_ps (f : Fm) : f.tt.ps.map TT.pv = f.inn.map fun g => g.tt.pv := by cases f <;> rfl
theorem f_kind (t : TT) : m_Test__kind [.val (.obj 3 t.fs)] = .ok (.v (.str t.kd)) [.val (.obj 3 t.fs)] := t_kind _ _ _
theorem f_parts (f : Fm) : m_Test__parts [.val (.obj 3 f.tt.fs)] = .ok (.o (.lst (f.inn.map fun g => g.tt.pv))) [.val (.obj 3 f.tt.fs)] := by
  have := t_parts f.tt.kd (.tup f.tt.dt) (f.tt.ps.map TT.pv)
  rw [pv_ps] at this
  have e : (PV.obj 3 f.tt.fs) = .obj 3 (testO f.tt.kd (.tup f.tt.dt) (.tup (f.inn.map fun g => g.tt.pv))) := by rw [← pv_ps]; rfl
  rw [e]
  exact this
theorem fk_kind (t : TT) : t.fs.lookup (Str.ofString "kind") = none := rfl
theorem fk_parts (t : TT) : t.fs.lookup (Str.ofString "parts") = none := rfl
theorem fk_names (t : TT) : t.fs.lookup (Str.ofString "names") = none := rfl
theorem inner_ok (f : Fm) : m__law_inner [.val f.fp] = .ok (.o (.lst (f.inn.map Fm.fp))) [.val f.fp] := by
  rw [em__law_inner]
  cases f with
  | «at» a => cases a <;> simp [enter, Fm.fp, Fm.inn, At.fp, At.kd, At.rest, ix0c]
  | un b f =>
    cases b with
    | true =>
      have w : wU true = Str.ofString "not" := rfl
      simp [enter, Fm.fp, Fm.inn, w, ix0c, ix1c, one_le]
    | false =>
      have w : wU false = Str.ofString "sure" := rfl
      simp [enter, Fm.fp, Fm.inn, w, ix0c, ix1c, one_le]
  | bi b f g =>
    cases b with
    | true =>
      have w : wB true = Str.ofString "and" := rfl
      simp [enter, Fm.fp, Fm.inn, w, ix0c, ix1c, ix2c, two_le]
    | false =>
      have w : wB false = Str.ofString "or" := rfl
      simp [enter, Fm.fp, Fm.inn, w, ix0c, ix1c, ix2c, two_le]
theorem lev_ok : ∀ (f : Fm) (n : Nat), f.lv < n → m__law_levels n [.val f.fp] = .ok (.v (.int f.lv)) [.val f.fp]
  | f, 0, h => by omega
  | .at a, n + 1, _ => by
    rw [em__law_levels]
    cases a <;> simp [enter, Fm.fp, Fm.lv, At.fp, At.kd, At.rest, ix0c]
  | .un b f, n + 1, h => by
    have e := lev_ok f n (by rw [Fm.lv] at h; omega)
    have z : (1 : Int) + (f.lv : Int) = (((f.lv + 1 : Nat)) : Int) := by omega
    rw [em__law_levels]
    cases b with
    | true =>
      have w : wU true = Str.ofString "not" := rfl
      simp [enter, Fm.fp, Fm.lv, w, ix0c, ix1c, e]
      omega
    | false =>
      have w : wU false = Str.ofString "sure" := rfl
      simp [enter, Fm.fp, Fm.lv, w, ix0c, ix1c, e]
      omega
  | .bi b f g, n + 1, h => by
    have e1 := lev_ok f n (by rw [Fm.lv] at h; omega)
    have e2 := lev_ok g n (by rw [Fm.lv] at h; omega)
    have w : wB b = Str.ofString "and" ∨ wB b = Str.ofString "or" := by cases b; exact .inr rfl; exact .inl rfl
    rw [em__law_levels]
    by_cases c : g.lv < f.lv
    · have c' : (g.lv : Int) < (f.lv : Int) := by omega
      have z : max f.lv g.lv = f.lv := by omega
      rcases w with w | w
      · simp [enter, Fm.fp, Fm.lv, w, ix0c, ix1c, ix2c, e1, e2, c, c', z]
        omega
      · simp [enter, Fm.fp, Fm.lv, w, ix0c, ix1c, ix2c, e1, e2, c, c', z]
        omega
    · have c' : ¬ (g.lv : Int) < (f.lv : Int) := by omega
      have z : max f.lv g.lv = g.lv := by omega
      rcases w with w | w
      · simp [enter, Fm.fp, Fm.lv, w, ix0c, ix1c, ix2c, e1, e2, c, c', z]
        omega
      · simp [enter, Fm.fp, Fm.lv, w, ix0c, ix1c, ix2c, e1, e2, c, c', z]
        omega
theorem cj_le : ∀ f : Fm, f.cj.length ≤ f.ats.length
  | .at a => by simp [Fm.cj, Fm.ats]
  | .un b f => by have := f.na1; simp [Fm.cj, Fm.ats]; omega
  | .bi false f g => by have := f.na1; simp [Fm.cj, Fm.ats]; omega
  | .bi true f g => by have := cj_le f; have := cj_le g; rw [Fm.cj, Fm.ats, List.length_append, List.length_append]; omega
theorem lcj_ok : ∀ (f : Fm) (n : Nat), f.lv < n → f.ats.length ≤ 1000 → m__law_conjuncts n [.val f.fp] = .ok (.o (.lst (f.cj.map Fm.fp))) [.val f.fp] ∨ m__law_conjuncts n [.val f.fp] = .ok (.v (.lst (f.cj.map Fm.fp))) [.val f.fp]
  | f, 0, h, _ => by omega
  | .at a, n + 1, _, _ => by
    refine .inl ?_
    rw [em__law_conjuncts]
    cases a <;> simp [enter, Fm.fp, Fm.cj, At.fp, At.kd, At.rest, ix0c, one_le]
  | .un b f, n + 1, h, hl => by
    refine .inl ?_
    have w : wU b = Str.ofString "not" ∨ wU b = Str.ofString "sure" := by cases b; exact .inr rfl; exact .inl rfl
    rw [em__law_conjuncts]
    rcases w with w | w <;> simp [enter, Fm.fp, Fm.cj, w, ix0c, one_le]
  | .bi false f g, n + 1, h, hl => by
    refine .inl ?_
    have w : wB false = Str.ofString "or" := rfl
    rw [em__law_conjuncts]
    simp [enter, Fm.fp, Fm.cj, w, ix0c, one_le]
  | .bi true f g, n + 1, h, hl => by
    rw [Fm.ats, List.length_append] at hl
    have e1 := lcj_ok f n (by rw [Fm.lv] at h; omega) (by omega)
    have e2 := lcj_ok g n (by rw [Fm.lv] at h; omega) (by omega)
    have l1 := cj_le f
    have l2 := cj_le g
    have ad := add_ll (f.cj.map Fm.fp) (g.cj.map Fm.fp) (nat_le (by simp; omega))
    have w : wB true = Str.ofString "and" := rfl
    refine .inr ?_
    rw [em__law_conjuncts]
    rcases e1 with e1 | e1 <;> rcases e2 with e2 | e2 <;> simp [enter, Fm.fp, Fm.cj, w, ix0c, ix1c, ix2c, e1, e2, ad]
theorem cj_step {F : FM} {o : PV} {x : PV} {xs ys acc : List PV} (hf : F [.val x] = .ok (.o (.lst ys)) [.val x]) (hl : acc.length + ys.length ≤ 1000) :
    cL [1, 2] (tgN 1) (bod2 noT [2] (itV (callE F (argV (getv 1) argNil))) (tgN 2) noT (getv 2)) (x :: xs) acc [.val o, .non, .non] =
      cL [1, 2] (tgN 1) (bod2 noT [2] (itV (callE F (argV (getv 1) argNil))) (tgN 2) noT (getv 2)) xs (acc ++ ys) [.val o, .non, .non] := by
  rw [cL]
  have e1 : itV (callE F (argV (getv 1) argNil)) [.val o, .val x, .non] = .ok ys [.val o, .val x, .non] := by simp [hf]
  have e2 := bod2_ok (tg1 := tgN 2) (t1 := noT) (e := getv 2) (vs1 := [2]) e1 (by simp) (atoms_inner o x ys acc hl)
  simp [e2]
theorem tcj_ok : ∀ (f : Fm) (n : Nat), f.lv < n → f.ats.length ≤ 1000 → m_conjuncts n [.val f.tt.pv] = .ok (.o (.lst (f.cj.map fun g => g.tt.pv))) [.val f.tt.pv]
  | f, 0, h, _ => by omega
  | .at a, n + 1, _, _ => by
    have k := f_kind (Fm.at a).tt
    rw [em_conjuncts, TT.pv_is]
    have w : ¬ (Fm.at a).tt.kd = Str.ofString "and" := by
      show ¬ a.kd = _
      cases a <;> simp [At.kd]
    simp [enter, k, fk_kind, w, one_le, Fm.cj, TT.pv_is]
  | .un b f, n + 1, h, hl => by
    have k := f_kind (Fm.un b f).tt
    rw [em_conjuncts, TT.pv_is]
    have w : ¬ (Fm.un b f).tt.kd = Str.ofString "and" := by
      show ¬ wU b = _
      cases b <;> simp [wU, wNot, wSure]
    simp [enter, k, fk_kind, w, one_le, Fm.cj, TT.pv_is]
  | .bi false f g, n + 1, h, hl => by
    have k := f_kind (Fm.bi false f g).tt
    rw [em_conjuncts, TT.pv_is]
    have w : ¬ (Fm.bi false f g).tt.kd = Str.ofString "and" := by
      show ¬ wB false = _
      simp [wB, wOr]
    simp [enter, k, fk_kind, w, one_le, Fm.cj, TT.pv_is]
  | .bi true f g, n + 1, h, hl => by
    rw [Fm.ats, List.length_append] at hl
    have e1 := tcj_ok f n (by rw [Fm.lv] at h; omega) (by omega)
    have e2 := tcj_ok g n (by rw [Fm.lv] at h; omega) (by omega)
    have l1 := cj_le f
    have l2 := cj_le g
    have k := f_kind (Fm.bi true f g).tt
    have p := f_parts (Fm.bi true f g)
    have w : (Fm.bi true f g).tt.kd = Str.ofString "and" := rfl
    have q1 := cj_step (F := m_conjuncts n) (o := (Fm.bi true f g).tt.pv) (x := f.tt.pv) (xs := [g.tt.pv]) (acc := []) e1 (by simp; omega)
    have q2 := cj_step (F := m_conjuncts n) (o := (Fm.bi true f g).tt.pv) (x := g.tt.pv) (xs := []) (acc := f.cj.map fun g => g.tt.pv) e2 (by simp; omega)
    rw [em_conjuncts]
    rw [TT.pv_is (Fm.bi true f g).tt] at *
    rw [w] at k
    simp only [Fm.inn, List.map_cons, List.map_nil] at p
    simp [enter, k, fk_kind, p, fk_parts, q1, q2, Fm.cj]
theorem are_ok {cs : List Col} (hc : ColsOk cs) {fs : List Fm} (h : ∀ f ∈ fs, f.Ok cs ∧ f.tt.Ok) (hl : fs.length ≤ 100) : m__law_are [.val (.lst (fs.map fun g => g.tt.pv)), .val (.lst (fs.map Fm.fp))] = .ok (.v (.bl true)) [.val (.lst (fs.map fun g => g.tt.pv)), .val (.lst (fs.map Fm.fp))] := by
  have lp : ∀ (m j : Nat) (x : Slot), j + m = fs.length → mp (some x) = true → ∃ y, frL (tgN 2) q__law_are_4 (rng j m) [.val (.lst (fs.map fun g => g.tt.pv)), .val (.lst (fs.map Fm.fp)), x] = .nxt [.val (.lst (fs.map fun g => g.tt.pv)), .val (.lst (fs.map Fm.fp)), y] := by
    intro m
    induction m with
    | zero => intro j x _ _; exact ⟨x, by rw [rng, frL]⟩
    | succ m ih =>
      intro j x hj hx
      obtain ⟨y, e⟩ := ih (j + 1) (.val (.int j)) (by omega) rfl
      refine ⟨y, ?_⟩
      have hjl : j < fs.length := by omega
      obtain ⟨f1, f2⟩ := h fs[j] (List.getElem_mem hjl)
      have hv : fs[j].lv < 40 := by have := f2.l; rw [Fm.lev] at this; omega
      have i1 := ixR (f := fun g : Fm => g.tt.pv) hjl
      have i2 := ixR (f := Fm.fp) hjl
      have mk := make_ok hc fs[j] 40 f1 f2 hv
      have eq := t_eqO (t := fs[j].tt) (by rw [Fm.lev]; exact hv) (Fm.dt hc f1)
      rw [show rng (j : Int) (m + 1) = .int j :: rng ((j : Int) + 1) m from rfl]
      refine (frL_step (ρ1 := [.val (.lst (fs.map fun g => g.tt.pv)), .val (.lst (fs.map Fm.fp)), .val (.int j)]) (by simp [hx]) ?_).trans e
      simp [-ev_eqO, i1, i2, mk, eq]
  obtain ⟨y, e⟩ := lp fs.length 0 .non (by omega) rfl
  have sz : fs.length ≤ sizeLine := nat_le (by omega)
  have ok : okR (fs.length : Int) = true := okR_small (by omega) (by omega)
  have e' : frL (tgN 2) q__law_are_4 (rng 0 fs.length) _ = _ := e
  rw [em__law_are]
  simp [enter, ty_ll, sz, ok, e']
end Gk

set_option Elab.async false
set_option linter.all false
set_option maxRecDepth 100000
namespace Gk
open PySem PySem.Spec L2 TR
set_option autoImplicit false
/-! ### the law -/
theorem inn_lv {f g : Fm} (h : g ∈ f.inn) : g.lv < f.lv := by
  cases f with
  | «at» a => cases h
  | un b f =>
    rw [Fm.inn, List.mem_singleton] at h
    rw [h, Fm.lv]; omega
  | bi b f1 f2 =>
    rw [Fm.inn] at h
    rw [Fm.lv]
    rcases List.mem_cons.mp h with rfl | h
    · omega
    · rw [List.mem_singleton] at h
      rw [h]; omega
theorem inn_ok {cs : List Col} {f g : Fm} (h : g ∈ f.inn) (ho : f.Ok cs) (ht : f.tt.Ok) : g.Ok cs ∧ g.tt.Ok := by
  cases f with
  | «at» a => cases h
  | un b f =>
    rw [Fm.inn, List.mem_singleton] at h
    rw [h]; exact ⟨ho, ht.un⟩
  | bi b f1 f2 =>
    rw [Fm.inn] at h
    rcases List.mem_cons.mp h with rfl | h
    · exact ⟨ho.1, ht.bi1⟩
    · rw [List.mem_singleton] at h
      rw [h]; exact ⟨ho.2, ht.bi2⟩
theorem inn_len (f : Fm) : f.inn.length ≤ 2 := by cases f <;> simp [Fm.inn]
theorem cj_ok {cs : List Col} : ∀ {f g : Fm}, g ∈ f.cj → f.Ok cs → f.tt.Ok → g.Ok cs ∧ g.tt.Ok
  | .at a, g, h, ho, ht => by
    rw [Fm.cj, List.mem_singleton] at h
    rw [h]; exact ⟨ho, ht⟩
    intro f g z; cases z
  | .un b f, g, h, ho, ht => by
    rw [Fm.cj, List.mem_singleton] at h
    rw [h]; exact ⟨ho, ht⟩
    intro f g z; cases z
  | .bi false f1 f2, g, h, ho, ht => by
    rw [Fm.cj, List.mem_singleton] at h
    rw [h]; exact ⟨ho, ht⟩
    intro f g z; cases z
  | .bi true f1 f2, g, h, ho, ht => by
    rw [Fm.cj] at h
    rcases List.mem_append.mp h with h | h
    · exact cj_ok h ho.1 ht.bi1
    · exact cj_ok h ho.2 ht.bi2
theorem isint_ok (i : Int) : m__law_is_integer [.val (.int i)] = .ok (.v (.bl true)) [.val (.int i)] := by
  rw [em__law_is_integer]
  simp [enter]
theorem ag_loop {F : FM} {s0 s1 s2 : Slot} {fs : List Fm} (h : ∀ f ∈ fs, F [.val f.tt.pv, .val f.fp] = .ok (.v (.bl true)) [.val f.tt.pv, .val f.fp]) : ∀ (m j : Nat) (x : Slot), j + m = fs.length → mp (some x) = true →
    ∃ y, frL (tgN 5) (q__law_agrees_21 F) (rng j m) [s0, s1, s2, .val (.lst (fs.map fun g => g.tt.pv)), .val (.lst (fs.map Fm.fp)), x] = .nxt [s0, s1, s2, .val (.lst (fs.map fun g => g.tt.pv)), .val (.lst (fs.map Fm.fp)), y]
  | 0, j, x, _, _ => ⟨x, by rw [rng, frL]⟩
  | m + 1, j, x, hj, hx => by
    obtain ⟨y, e⟩ := ag_loop (s0 := s0) (s1 := s1) (s2 := s2) h m (j + 1) (.val (.int j)) (by omega) rfl
    refine ⟨y, ?_⟩
    have hjl : j < fs.length := by omega
    have i1 := ixR (f := fun g : Fm => g.tt.pv) hjl
    have i2 := ixR (f := Fm.fp) hjl
    have e0 := h fs[j] (List.getElem_mem hjl)
    rw [show rng (j : Int) (m + 1) = .int j :: rng ((j : Int) + 1) m from rfl]
    refine (frL_step (ρ1 := [s0, s1, s2, .val (.lst (fs.map fun g => g.tt.pv)), .val (.lst (fs.map Fm.fp)), .val (.int j)]) (by simp [hx]) ?_).trans e
    simp [i1, i2, e0]
theorem strs_ne {ss : List Str} (h : ∀ s ∈ ss, Uni s) : pyNe (.lst (ss.map .str)) (.lst (ss.map .str)) = some (.bl false) := by
  have hd : Dat 60 (.lst (ss.map .str)) := by
    rw [Dat_lst]
    refine dats_iff.mpr fun x hx => ?_
    obtain ⟨s, hs, rfl⟩ := List.mem_map.mp hx
    rw [Dat_str]
    exact h s hs
  rw [ne_dat (n := 60) (m := 60) hd hd, eqP_refl 60 _ hd]
  rfl
theorem lclr (xs : List PV) : lClear xs [] = some (.non, []) := (rfl)
theorem agrees_ok {cs : List Col} (hc : ColsOk cs) : ∀ (n : Nat) (f : Fm), f.lv < n → f.Ok cs → f.tt.Ok → m__law_agrees n [.val f.tt.pv, .val f.fp] = .ok (.v (.bl true)) [.val f.tt.pv, .val f.fp]
  | 0, f, h, _, _ => by omega
  | n + 1, f, h, ho, ht => by
    have hv : f.lv < 40 := by have := ht.l; rw [Fm.lev] at this; omega
    have ha : f.ats.length ≤ 24 := by have := ht.a; rw [Fm.na] at this; exact this
    have k := f_kind f.tt
    have k0 := fp0 f
    have p := f_parts f
    have i := inner_ok f
    have a1 := are_ok hc (fs := f.inn) (fun g hg => inn_ok hg ho ht) (by have := inn_len f; omega)
    have t := t_atoms f.tt 40 (by rw [f.lev]; exact hv) (by rw [f.na]; omega)
    have em : f.tt.atoms.map TT.pv = (f.ats.map Fm.at).map fun g => g.tt.pv := by rw [f.atoms, List.map_map, List.map_map]; rfl
    have em2 : f.ats.map At.fp = (f.ats.map Fm.at).map Fm.fp := by rw [List.map_map]; rfl
    rw [em] at t
    have l := atoms_ok f 40 hv (by omega)
    rw [em2] at l
    have a2 := are_ok hc (fs := f.ats.map Fm.at) (fun g hg => by
      obtain ⟨a, hm, rfl⟩ := List.mem_map.mp hg
      exact ⟨Fm.ats_ok ho a hm, ⟨by show 1 ≤ 24; omega, by show 0 ≤ 12; omega⟩⟩) (by rw [List.length_map]; omega)
    obtain ⟨A, hA⟩ : ∃ A, A = f.ats.map Fm.at := ⟨_, rfl⟩
    have hAl : A.length = f.ats.length := by rw [hA, List.length_map]
    rw [← hA] at t l a2
    have c1 := tcj_ok f 40 hv (by omega)
    have c2 := lcj_ok f 40 hv (by omega)
    have cl := cj_le f
    have a3 := are_ok hc (fs := f.cj) (fun g hg => cj_ok hg ho ht) (by omega)
    have v1 := t_levels f.tt 40 (by rw [f.lev]; exact hv)
    rw [f.lev] at v1
    have v2 := lev_ok f 40 hv
    have n1 := tnames_ok hc ho hv (by omega)
    have n2 := names_ok hc ho hv (by omega)
    have nn := strs_ne (ss := sortS f.nms) (fun s hs => hc.uni (Fm.nms_col ho s ((sortS_perm _).mem_iff.mp hs)))
    have nl := f.nms_len
    have sl : (sortS f.nms).length < sizeLine := by rw [(sortS_perm f.nms).length_eq]; exact nat_lt (by omega)
    have lp := fun (s0 s1 s2 : Slot) => ag_loop (F := m__law_agrees n) (s0 := s0) (s1 := s1) (s2 := s2) (fs := f.inn) (fun g hg => agrees_ok hc n g (by have := inn_lv hg; omega) (inn_ok hg ho ht).1 (inn_ok hg ho ht).2) f.inn.length 0
    have il := inn_len f
    have s1 : f.inn.length ≤ sizeLine := nat_le (by omega)
    have s1' : f.inn.length < sizeLine := nat_lt (by omega)
    have s2 : A.length ≤ sizeLine := nat_le (by omega)
    have s3 : f.cj.length ≤ sizeLine := nat_le (by omega)
    have ok : okR (f.inn.length : Int) = true := okR_small (by omega) (by omega)
    have q1 := pv_lkatoms f.tt
    have q2 := pv_lklevels f.tt
    obtain ⟨y, lp⟩ := lp (.val f.tt.pv) (.val f.fp) (.own false (.lst ((sortS f.nms).map .str ++ [.str (Str.ofString "x")]))) .non (by omega) rfl
    have lp' : frL (tgN 5) (q__law_agrees_21 (m__law_agrees n)) (rng 0 f.inn.length) _ = _ := lp
    rw [em__law_agrees]
    rw [f.tt.pv_is] at *
    rcases l with l | l <;> rcases c2 with c2 | c2 <;>
      simp [enter, k, fk_kind, fk_parts, fk_names, k0, p, i, a1, t, l, a2, c1, c2, a3, v1, v2, isint_ok, n1, n2, nn, sl, s1, s1', s2, s3, ok, q1, q2, lp', ty_ll, lclr]
theorem law_true (ns : List Int) (hl : ns.length ≤ 63) (hb : ∀ z ∈ ns, PySem.Builtin.Int.intBits z ≤ 1048576) : ∃ r, m_law [.val (.lst (ns.map .int))] = .ok (.v (.bl true)) r := by
  have e0 := begin_ok ns
  obtain ⟨cs, d1, e1, hc, c1, c2, k1⟩ := columns_ok (most := 4) (d0_ok ns) (by decide) (by decide) (by decide)
  obtain ⟨f, d2, e2, hf, fa, k2⟩ := form_ok (most := 6) k1 (by decide) c1 (by omega) (by decide) (by decide)
  have ht := hf.tok (by omega)
  have hv : f.lv < 40 := by have := ht.l; rw [Fm.lev] at this; omega
  have e3 := make_ok hc f 40 hf.ok ht hv
  have e4 := agrees_ok hc 40 f hv hf.ok ht
  have k0 := fp0 f
  have p := f_parts f
  have sm := t_same (t := f.tt) (by rw [f.lev]; exact hv) (Fm.dt hc hf.ok)
  rw [em_law]
  cases f with
  | «at» a =>
    have w : ∀ w ∈ [Str.ofString "and", Str.ofString "or", Str.ofString "not", Str.ofString "sure"], ¬ (Fm.at a).tt.kd = w := by
      intro w hw
      show ¬ a.kd = w
      simp only [List.mem_cons, List.not_mem_nil, or_false] at hw
      rcases hw with rfl | rfl | rfl | rfl <;> cases a <;> simp [At.kd]
    have w1 := w (Str.ofString "and") (by simp)
    have w2 := w (Str.ofString "or") (by simp)
    have w3 := w (Str.ofString "not") (by simp)
    have w4 := w (Str.ofString "sure") (by simp)
    rw [(Fm.at a).tt.pv_is] at *
    simp only [Fm.inn, List.map_nil] at p
    simp [enter, e0, e1, e2, e3, e4, k0, p, fk_parts, w1, w2, w3, w4]
  | un b f =>
    cases b with
    | true =>
      have w : (Fm.un true f).tt.kd = Str.ofString "not" := rfl
      have i := inv_ok (a := f.tt) ht.un
      rw [lim_no (t := .un (Str.ofString "not") f.tt) ht] at i
      rw [w] at k0
      have u : (TT.un (Str.ofString "not") f.tt) = (Fm.un true f).tt := rfl
      rw [u] at i
      simp only [Fm.inn, List.map_cons, List.map_nil] at p
      rw [(Fm.un true f).tt.pv_is] at *
      rw [f.tt.pv_is] at p i
      simp [enter, e0, e1, e2, e3, e4, k0, p, fk_parts, ix0c, i, sm]
    | false =>
      have w : (Fm.un false f).tt.kd = Str.ofString "sure" := rfl
      have i := sure_ok (a := f.tt) ht.un
      rw [lim_no (t := .un (Str.ofString "sure") f.tt) ht] at i
      rw [w] at k0
      have u : (TT.un (Str.ofString "sure") f.tt) = (Fm.un false f).tt := rfl
      rw [u] at i
      simp only [Fm.inn, List.map_cons, List.map_nil] at p
      rw [(Fm.un false f).tt.pv_is] at *
      rw [f.tt.pv_is] at p i
      simp [enter, e0, e1, e2, e3, e4, k0, p, fk_parts, ix0c, i, sm]
  | bi b f g =>
    cases b with
    | true =>
      have w : (Fm.bi true f g).tt.kd = Str.ofString "and" := rfl
      have i := and_ok (a := f.tt) (b := g.tt) ht.bi1 ht.bi2
      rw [lim_no (t := .bi (Str.ofString "and") f.tt g.tt) ht] at i
      rw [w] at k0
      have u : (TT.bi (Str.ofString "and") f.tt g.tt) = (Fm.bi true f g).tt := rfl
      rw [u] at i
      simp only [Fm.inn, List.map_cons, List.map_nil] at p
      rw [(Fm.bi true f g).tt.pv_is] at *
      rw [f.tt.pv_is, g.tt.pv_is] at p i
      simp [enter, e0, e1, e2, e3, e4, k0, p, fk_parts, ix0c, ix1c, i, sm]
    | false =>
      have w : (Fm.bi false f g).tt.kd = Str.ofString "or" := rfl
      have i := or_ok (a := f.tt) (b := g.tt) ht.bi1 ht.bi2
      rw [lim_no (t := .bi (Str.ofString "or") f.tt g.tt) ht] at i
      rw [w] at k0
      have u : (TT.bi (Str.ofString "or") f.tt g.tt) = (Fm.bi false f g).tt := rfl
      rw [u] at i
      simp only [Fm.inn, List.map_cons, List.map_nil] at p
      rw [(Fm.bi false f g).tt.pv_is] at *
      rw [f.tt.pv_is, g.tt.pv_is] at p i
      simp [enter, e0, e1, e2, e3, e4, k0, p, fk_parts, ix0c, ix1c, i, sm]
end Gk

section
open PySem PySem.Spec L2 TR
set_option maxRecDepth 100000 in
set_option maxHeartbeats 0 in
theorem Gk.all_mk {P : Program} {w : World} {K : PySem.W.Frag} {h : Heap} {mg : Str → Option Value} {fa : Addr} (X : K.In h) (G : h.Ns mainGlobals mg) (hfa : mg "law" = some (.ref fa))
    {Ca3 : Addr} (ca3 : PySem.W.nsIn K mainGlobals "Test" = some (some (.ref Ca3)))
    (pg3 : PySem.W.plainGet K Ca3 Str.empty = true)
    (hd3 : PySem.W.hasDictIn K Ca3 = true)
    (po3 : PySem.W.plainOver K Ca3 = true)
    (sa3 : PySem.W.findIn K (.ref Ca3) "__setattr__" = some (some (.builtin "object.__setattr__")))
    (ha3 : PySem.W.findIn K (.ref Ca3) "__class__" = some (some (.builtin "object.__class__")))
    (hm3 : PySem.W.mroIn K Ca3 (.type "object") = some true)
    (kt3_bool : PySem.W.kitOne K (.ref Ca3) (.type "bool") = some false)
    (kt3_int : PySem.W.kitOne K (.ref Ca3) (.type "int") = some false)
    (kt3_str : PySem.W.kitOne K (.ref Ca3) (.type "str") = some false)
    (kt3_list : PySem.W.kitOne K (.ref Ca3) (.type "list") = some false)
    (kt3_tuple : PySem.W.kitOne K (.ref Ca3) (.type "tuple") = some false)
    (kt3_dict : PySem.W.kitOne K (.ref Ca3) (.type "dict") = some false)
    (hn0 : PySem.W.specialIn K (.builtin "object.__class__") "__get__" = some (some (.builtin "getset_descriptor.__get__"))) (ht0 : PySem.W.takesIn K (.builtin "object.__class__") = some true)
    (nf3__data : PySem.W.findIn K (.ref Ca3) "_data" = some none)
    (nf3__kind : PySem.W.findIn K (.ref Ca3) "_kind" = some none)
    (nf3__parts : PySem.W.findIn K (.ref Ca3) "_parts" = some none)
    {Ca24 : Addr} (ca24 : PySem.W.nsIn K mainGlobals "BadTest" = some (some (.ref Ca24)))
    (xa24 : PySem.W.excInitIn K Ca24 eTail "Exception.__new__" = true)
    (xb24 : PySem.W.excOver K Ca24 eTail = true)
    (xc24 : PySem.W.hasDictIn K Ca24 = true)
    (xd24 : PySem.W.findIn K (.ref Ca24) "__setattr__" = some (some (.builtin "object.__setattr__")))
    (xe24 : PySem.W.subIn K (.ref Ca24) (.type "BaseException") = some true)
    (xf24 : PySem.W.typeIn K (.ref Ca24) = some (.type "type"))
    (xg24 : PySem.W.keepIn K (.ref Ca24) = true)
    (xn24_why : PySem.W.findIn K (.ref Ca24) "why" = some none)
    (kb3_NoneType : PySem.W.kitOne K (.type "NoneType") (.ref Ca3) = some false)
    (kb3_bool : PySem.W.kitOne K (.type "bool") (.ref Ca3) = some false)
    (kb3_int : PySem.W.kitOne K (.type "int") (.ref Ca3) = some false)
    (kb3_str : PySem.W.kitOne K (.type "str") (.ref Ca3) = some false)
    (kb3_list : PySem.W.kitOne K (.type "list") (.ref Ca3) = some false)
    (kb3_tuple : PySem.W.kitOne K (.type "tuple") (.ref Ca3) = some false)
    (kb3_dict : PySem.W.kitOne K (.type "dict") (.ref Ca3) = some false)
    (kc3_3 : PySem.W.kitOne K (.ref Ca3) (.ref Ca3) = some true)
    (sf3 : PySem.W.selfFirst K Ca3 = true)
    {f0 : Addr} {od0 an0 : Option Addr} {sl0 : Array (Option Value)} {oc0 kV0 dc0 pm0 cd0 ct0 : Value} (a0 : PySem.W.nsIn K mainGlobals "_law_begin" = some (some (.ref f0))) (l0 : K.lookup f0 = some ⟨oc0, od0, .func (PySem.W.fnOf "_law_begin" "_law_begin" (defArgs Gk.s__law_begin) (defBody Gk.s__law_begin) (defScope Gk.s__law_begin) .none kV0 dc0 pm0 an0 cd0 ct0), sl0⟩) (c0 : PySem.W.codeIn K cd0 "_law_begin" = true) (k0 : PySem.W.keepIn K (.ref f0) = true)
    {f1 : Addr} {od1 an1 : Option Addr} {sl1 : Array (Option Value)} {oc1 kV1 dc1 pm1 cd1 ct1 : Value} (a1 : PySem.W.nsIn K mainGlobals "_law_take" = some (some (.ref f1))) (l1 : K.lookup f1 = some ⟨oc1, od1, .func (PySem.W.fnOf "_law_take" "_law_take" (defArgs Gk.s__law_take) (defBody Gk.s__law_take) (defScope Gk.s__law_take) .none kV1 dc1 pm1 an1 cd1 ct1), sl1⟩) (c1 : PySem.W.codeIn K cd1 "_law_take" = true) (k1 : PySem.W.keepIn K (.ref f1) = true)
    {f2 : Addr} {od2 an2 : Option Addr} {sl2 : Array (Option Value)} {oc2 kV2 dc2 pm2 cd2 ct2 : Value} (a2 : PySem.W.nsIn K mainGlobals "_law_name" = some (some (.ref f2))) (l2 : K.lookup f2 = some ⟨oc2, od2, .func (PySem.W.fnOf "_law_name" "_law_name" (defArgs Gk.s__law_name) (defBody Gk.s__law_name) (defScope Gk.s__law_name) .none kV2 dc2 pm2 an2 cd2 ct2), sl2⟩) (c2 : PySem.W.codeIn K cd2 "_law_name" = true) (k2 : PySem.W.keepIn K (.ref f2) = true)
    {f3 : Addr} {od3 an3 : Option Addr} {sl3 : Array (Option Value)} {oc3 kV3 dc3 pm3 cd3 ct3 : Value} (a3 : PySem.W.nsIn K mainGlobals "_law_columns" = some (some (.ref f3))) (l3 : K.lookup f3 = some ⟨oc3, od3, .func (PySem.W.fnOf "_law_columns" "_law_columns" (defArgs Gk.s__law_columns) (defBody Gk.s__law_columns) (defScope Gk.s__law_columns) .none kV3 dc3 pm3 an3 cd3 ct3), sl3⟩) (c3 : PySem.W.codeIn K cd3 "_law_columns" = true) (k3 : PySem.W.keepIn K (.ref f3) = true)
    {f4 : Addr} {od4 an4 : Option Addr} {sl4 : Array (Option Value)} {oc4 kV4 dc4 pm4 cd4 ct4 : Value} (a4 : PySem.W.nsIn K mainGlobals "_law_wrapped" = some (some (.ref f4))) (l4 : K.lookup f4 = some ⟨oc4, od4, .func (PySem.W.fnOf "_law_wrapped" "_law_wrapped" (defArgs Gk.s__law_wrapped) (defBody Gk.s__law_wrapped) (defScope Gk.s__law_wrapped) .none kV4 dc4 pm4 an4 cd4 ct4), sl4⟩) (c4 : PySem.W.codeIn K cd4 "_law_wrapped" = true) (k4 : PySem.W.keepIn K (.ref f4) = true)
    {f5 : Addr} {od5 an5 : Option Addr} {sl5 : Array (Option Value)} {oc5 kV5 dc5 pm5 cd5 ct5 : Value} (a5 : PySem.W.nsIn K mainGlobals "_law_number" = some (some (.ref f5))) (l5 : K.lookup f5 = some ⟨oc5, od5, .func (PySem.W.fnOf "_law_number" "_law_number" (defArgs Gk.s__law_number) (defBody Gk.s__law_number) (defScope Gk.s__law_number) .none kV5 dc5 pm5 an5 cd5 ct5), sl5⟩) (c5 : PySem.W.codeIn K cd5 "_law_number" = true) (k5 : PySem.W.keepIn K (.ref f5) = true)
    {f6 : Addr} {od6 an6 : Option Addr} {sl6 : Array (Option Value)} {oc6 kV6 dc6 pm6 cd6 ct6 : Value} (a6 : PySem.W.nsIn K mainGlobals "_law_chars" = some (some (.ref f6))) (l6 : K.lookup f6 = some ⟨oc6, od6, .func (PySem.W.fnOf "_law_chars" "_law_chars" (defArgs Gk.s__law_chars) (defBody Gk.s__law_chars) (defScope Gk.s__law_chars) .none kV6 dc6 pm6 an6 cd6 ct6), sl6⟩) (c6 : PySem.W.codeIn K cd6 "_law_chars" = true) (k6 : PySem.W.keepIn K (.ref f6) = true)
    {f7 : Addr} {od7 an7 : Option Addr} {sl7 : Array (Option Value)} {oc7 kV7 dc7 pm7 cd7 ct7 : Value} (a7 : PySem.W.nsIn K mainGlobals "_law_text" = some (some (.ref f7))) (l7 : K.lookup f7 = some ⟨oc7, od7, .func (PySem.W.fnOf "_law_text" "_law_text" (defArgs Gk.s__law_text) (defBody Gk.s__law_text) (defScope Gk.s__law_text) .none kV7 dc7 pm7 an7 cd7 ct7), sl7⟩) (c7 : PySem.W.codeIn K cd7 "_law_text" = true) (k7 : PySem.W.keepIn K (.ref f7) = true)
    {f8 : Addr} {od8 an8 : Option Addr} {sl8 : Array (Option Value)} {oc8 kV8 dc8 pm8 cd8 ct8 : Value} (a8 : PySem.W.nsIn K mainGlobals "_law_value" = some (some (.ref f8))) (l8 : K.lookup f8 = some ⟨oc8, od8, .func (PySem.W.fnOf "_law_value" "_law_value" (defArgs Gk.s__law_value) (defBody Gk.s__law_value) (defScope Gk.s__law_value) .none kV8 dc8 pm8 an8 cd8 ct8), sl8⟩) (c8 : PySem.W.codeIn K cd8 "_law_value" = true) (k8 : PySem.W.keepIn K (.ref f8) = true)
    {f9 : Addr} {od9 an9 : Option Addr} {sl9 : Array (Option Value)} {oc9 kV9 dc9 pm9 cd9 ct9 : Value} (a9 : PySem.W.nsIn K mainGlobals "_law_atom" = some (some (.ref f9))) (l9 : K.lookup f9 = some ⟨oc9, od9, .func (PySem.W.fnOf "_law_atom" "_law_atom" (defArgs Gk.s__law_atom) (defBody Gk.s__law_atom) (defScope Gk.s__law_atom) .none kV9 dc9 pm9 an9 cd9 ct9), sl9⟩) (c9 : PySem.W.codeIn K cd9 "_law_atom" = true) (k9 : PySem.W.keepIn K (.ref f9) = true)
    {f10 : Addr} {od10 an10 : Option Addr} {sl10 : Array (Option Value)} {oc10 kV10 dc10 pm10 cd10 ct10 : Value} (a10 : PySem.W.nsIn K mainGlobals "_law_form" = some (some (.ref f10))) (l10 : K.lookup f10 = some ⟨oc10, od10, .func (PySem.W.fnOf "_law_form" "_law_form" (defArgs Gk.s__law_form) (defBody Gk.s__law_form) (defScope Gk.s__law_form) .none kV10 dc10 pm10 an10 cd10 ct10), sl10⟩) (c10 : PySem.W.codeIn K cd10 "_law_form" = true) (k10 : PySem.W.keepIn K (.ref f10) = true)
    {f11 : Addr} {od11 an11 : Option Addr} {sl11 : Array (Option Value)} {oc11 kV11 dc11 pm11 cd11 ct11 : Value} (a11 : PySem.W.findIn K (.ref Ca24) "__init__" = some (some (.ref f11))) (l11 : K.lookup f11 = some ⟨oc11, od11, .func (PySem.W.fnOf "__init__" "BadTest.__init__" (defArgs Gk.s_BadTest____init__) (defBody Gk.s_BadTest____init__) (defScope Gk.s_BadTest____init__) .none kV11 dc11 pm11 an11 cd11 ct11), sl11⟩) (c11 : PySem.W.codeIn K cd11 "BadTest.__init__" = true) (k11 : PySem.W.keepIn K (.ref f11) = true) (e11 : PySem.W.typeIn K (.ref f11) = some (.type "function"))
    {f12 : Addr} {od12 an12 : Option Addr} {sl12 : Array (Option Value)} {oc12 kV12 dc12 pm12 cd12 ct12 : Value} (a12 : PySem.W.findIn K (.ref Ca3) "atoms" = some (some (.ref f12))) (l12 : K.lookup f12 = some ⟨oc12, od12, .func (PySem.W.fnOf "atoms" "Test.atoms" (defArgs Gk.s_Test__atoms) (defBody Gk.s_Test__atoms) (defScope Gk.s_Test__atoms) .none kV12 dc12 pm12 an12 cd12 ct12), sl12⟩) (c12 : PySem.W.codeIn K cd12 "Test.atoms" = true) (k12 : PySem.W.keepIn K (.ref f12) = true) (e12 : PySem.W.isFn K (.ref f12) = true)
    {f13 : Addr} {od13 an13 : Option Addr} {sl13 : Array (Option Value)} {oc13 kV13 dc13 pm13 cd13 ct13 : Value} (a13 : PySem.W.findIn K (.ref Ca3) "levels" = some (some (.ref f13))) (l13 : K.lookup f13 = some ⟨oc13, od13, .func (PySem.W.fnOf "levels" "Test.levels" (defArgs Gk.s_Test__levels) (defBody Gk.s_Test__levels) (defScope Gk.s_Test__levels) .none kV13 dc13 pm13 an13 cd13 ct13), sl13⟩) (c13 : PySem.W.codeIn K cd13 "Test.levels" = true) (k13 : PySem.W.keepIn K (.ref f13) = true) (e13 : PySem.W.isFn K (.ref f13) = true)
    {f14 : Addr} {od14 an14 : Option Addr} {sl14 : Array (Option Value)} {oc14 kV14 dc14 pm14 cd14 ct14 : Value} (a14 : PySem.W.nsIn K mainGlobals "limited" = some (some (.ref f14))) (l14 : K.lookup f14 = some ⟨oc14, od14, .func (PySem.W.fnOf "limited" "limited" (defArgs Gk.s_limited) (defBody Gk.s_limited) (defScope Gk.s_limited) .none kV14 dc14 pm14 an14 cd14 ct14), sl14⟩) (c14 : PySem.W.codeIn K cd14 "limited" = true) (k14 : PySem.W.keepIn K (.ref f14) = true)
    {f15 : Addr} {od15 an15 : Option Addr} {sl15 : Array (Option Value)} {oc15 kV15 dc15 pm15 cd15 ct15 : Value} (a15 : PySem.W.findIn K (.ref Ca3) "__init__" = some (some (.ref f15))) (l15 : K.lookup f15 = some ⟨oc15, od15, .func (PySem.W.fnOf "__init__" "Test.__init__" (defArgs Gk.s_Test____init__) (defBody Gk.s_Test____init__) (defScope Gk.s_Test____init__) .none kV15 dc15 pm15 an15 cd15 ct15), sl15⟩) (c15 : PySem.W.codeIn K cd15 "Test.__init__" = true) (k15 : PySem.W.keepIn K (.ref f15) = true) (e15 : PySem.W.isFn K (.ref f15) = true)
    (mk3 : PySem.W.makesIn K Ca3 = true) (kp3 : PySem.W.keepIn K (.ref Ca3) = true)
    {f16 : Addr} {od16 an16 : Option Addr} {sl16 : Array (Option Value)} {oc16 kV16 dc16 pm16 cd16 ct16 : Value} (a16 : PySem.W.nsIn K mainGlobals "combine" = some (some (.ref f16))) (l16 : K.lookup f16 = some ⟨oc16, od16, .func (PySem.W.fnOf "combine" "combine" (defArgs Gk.s_combine) (defBody Gk.s_combine) (defScope Gk.s_combine) .none kV16 dc16 pm16 an16 cd16 ct16), sl16⟩) (c16 : PySem.W.codeIn K cd16 "combine" = true) (k16 : PySem.W.keepIn K (.ref f16) = true)
    {f17 : Addr} {od17 an17 : Option Addr} {sl17 : Array (Option Value)} {oc17 kV17 dc17 pm17 cd17 ct17 : Value} (a17 : PySem.W.findIn K (.ref Ca3) "__and__" = some (some (.ref f17))) (l17 : K.lookup f17 = some ⟨oc17, od17, .func (PySem.W.fnOf "__and__" "Test.__and__" (defArgs Gk.s_Test____and__) (defBody Gk.s_Test____and__) (defScope Gk.s_Test____and__) .none kV17 dc17 pm17 an17 cd17 ct17), sl17⟩) (c17 : PySem.W.codeIn K cd17 "Test.__and__" = true) (k17 : PySem.W.keepIn K (.ref f17) = true) (e17 : PySem.W.isFn K (.ref f17) = true)
    {f18 : Addr} {od18 an18 : Option Addr} {sl18 : Array (Option Value)} {oc18 kV18 dc18 pm18 cd18 ct18 : Value} (a18 : PySem.W.findIn K (.ref Ca3) "__or__" = some (some (.ref f18))) (l18 : K.lookup f18 = some ⟨oc18, od18, .func (PySem.W.fnOf "__or__" "Test.__or__" (defArgs Gk.s_Test____or__) (defBody Gk.s_Test____or__) (defScope Gk.s_Test____or__) .none kV18 dc18 pm18 an18 cd18 ct18), sl18⟩) (c18 : PySem.W.codeIn K cd18 "Test.__or__" = true) (k18 : PySem.W.keepIn K (.ref f18) = true) (e18 : PySem.W.isFn K (.ref f18) = true)
    {f19 : Addr} {od19 an19 : Option Addr} {sl19 : Array (Option Value)} {oc19 kV19 dc19 pm19 cd19 ct19 : Value} (a19 : PySem.W.findIn K (.ref Ca3) "__invert__" = some (some (.ref f19))) (l19 : K.lookup f19 = some ⟨oc19, od19, .func (PySem.W.fnOf "__invert__" "Test.__invert__" (defArgs Gk.s_Test____invert__) (defBody Gk.s_Test____invert__) (defScope Gk.s_Test____invert__) .none kV19 dc19 pm19 an19 cd19 ct19), sl19⟩) (c19 : PySem.W.codeIn K cd19 "Test.__invert__" = true) (k19 : PySem.W.keepIn K (.ref f19) = true) (e19 : PySem.W.isFn K (.ref f19) = true)
    {f20 : Addr} {od20 an20 : Option Addr} {sl20 : Array (Option Value)} {oc20 kV20 dc20 pm20 cd20 ct20 : Value} (a20 : PySem.W.nsIn K mainGlobals "sure" = some (some (.ref f20))) (l20 : K.lookup f20 = some ⟨oc20, od20, .func (PySem.W.fnOf "sure" "sure" (defArgs Gk.s_sure) (defBody Gk.s_sure) (defScope Gk.s_sure) .none kV20 dc20 pm20 an20 cd20 ct20), sl20⟩) (c20 : PySem.W.codeIn K cd20 "sure" = true) (k20 : PySem.W.keepIn K (.ref f20) = true)
    {f21 : Addr} {od21 an21 : Option Addr} {sl21 : Array (Option Value)} {oc21 kV21 dc21 pm21 cd21 ct21 : Value} (a21 : PySem.W.nsIn K mainGlobals "always" = some (some (.ref f21))) (l21 : K.lookup f21 = some ⟨oc21, od21, .func (PySem.W.fnOf "always" "always" (defArgs Gk.s_always) (defBody Gk.s_always) (defScope Gk.s_always) .none kV21 dc21 pm21 an21 cd21 ct21), sl21⟩) (c21 : PySem.W.codeIn K cd21 "always" = true) (k21 : PySem.W.keepIn K (.ref f21) = true)
    {f22 : Addr} {od22 an22 : Option Addr} {sl22 : Array (Option Value)} {oc22 kV22 dc22 pm22 cd22 ct22 : Value} (a22 : PySem.W.nsIn K mainGlobals "never" = some (some (.ref f22))) (l22 : K.lookup f22 = some ⟨oc22, od22, .func (PySem.W.fnOf "never" "never" (defArgs Gk.s_never) (defBody Gk.s_never) (defScope Gk.s_never) .none kV22 dc22 pm22 an22 cd22 ct22), sl22⟩) (c22 : PySem.W.codeIn K cd22 "never" = true) (k22 : PySem.W.keepIn K (.ref f22) = true)
    {f23 : Addr} {od23 an23 : Option Addr} {sl23 : Array (Option Value)} {oc23 kV23 dc23 pm23 cd23 ct23 : Value} (a23 : PySem.W.nsIn K mainGlobals "is_name" = some (some (.ref f23))) (l23 : K.lookup f23 = some ⟨oc23, od23, .func (PySem.W.fnOf "is_name" "is_name" (defArgs Gk.s_is_name) (defBody Gk.s_is_name) (defScope Gk.s_is_name) .none kV23 dc23 pm23 an23 cd23 ct23), sl23⟩) (c23 : PySem.W.codeIn K cd23 "is_name" = true) (k23 : PySem.W.keepIn K (.ref f23) = true)
    {f24 : Addr} {od24 an24 : Option Addr} {sl24 : Array (Option Value)} {oc24 kV24 dc24 pm24 cd24 ct24 : Value} (a24 : PySem.W.nsIn K mainGlobals "empty" = some (some (.ref f24))) (l24 : K.lookup f24 = some ⟨oc24, od24, .func (PySem.W.fnOf "empty" "empty" (defArgs Gk.s_empty) (defBody Gk.s_empty) (defScope Gk.s_empty) .none kV24 dc24 pm24 an24 cd24 ct24), sl24⟩) (c24 : PySem.W.codeIn K cd24 "empty" = true) (k24 : PySem.W.keepIn K (.ref f24) = true)
    {f25 : Addr} {od25 an25 : Option Addr} {sl25 : Array (Option Value)} {oc25 kV25 dc25 pm25 cd25 ct25 : Value} (a25 : PySem.W.nsIn K mainGlobals "is_sequence" = some (some (.ref f25))) (l25 : K.lookup f25 = some ⟨oc25, od25, .func (PySem.W.fnOf "is_sequence" "is_sequence" (defArgs Gk.s_is_sequence) (defBody Gk.s_is_sequence) (defScope Gk.s_is_sequence) .none kV25 dc25 pm25 an25 cd25 ct25), sl25⟩) (c25 : PySem.W.codeIn K cd25 "is_sequence" = true) (k25 : PySem.W.keepIn K (.ref f25) = true)
    {f26 : Addr} {od26 an26 : Option Addr} {sl26 : Array (Option Value)} {oc26 kV26 dc26 pm26 cd26 ct26 : Value} (a26 : PySem.W.nsIn K mainGlobals "is_integer" = some (some (.ref f26))) (l26 : K.lookup f26 = some ⟨oc26, od26, .func (PySem.W.fnOf "is_integer" "is_integer" (defArgs Gk.s_is_integer) (defBody Gk.s_is_integer) (defScope Gk.s_is_integer) .none kV26 dc26 pm26 an26 cd26 ct26), sl26⟩) (c26 : PySem.W.codeIn K cd26 "is_integer" = true) (k26 : PySem.W.keepIn K (.ref f26) = true)
    {f27 : Addr} {od27 an27 : Option Addr} {sl27 : Array (Option Value)} {oc27 kV27 dc27 pm27 cd27 ct27 : Value} (a27 : PySem.W.nsIn K mainGlobals "is_text" = some (some (.ref f27))) (l27 : K.lookup f27 = some ⟨oc27, od27, .func (PySem.W.fnOf "is_text" "is_text" (defArgs Gk.s_is_text) (defBody Gk.s_is_text) (defScope Gk.s_is_text) .none kV27 dc27 pm27 an27 cd27 ct27), sl27⟩) (c27 : PySem.W.codeIn K cd27 "is_text" = true) (k27 : PySem.W.keepIn K (.ref f27) = true)
    {f28 : Addr} {od28 an28 : Option Addr} {sl28 : Array (Option Value)} {oc28 kV28 dc28 pm28 cd28 ct28 : Value} (a28 : PySem.W.nsIn K mainGlobals "kind_of" = some (some (.ref f28))) (l28 : K.lookup f28 = some ⟨oc28, od28, .func (PySem.W.fnOf "kind_of" "kind_of" (defArgs Gk.s_kind_of) (defBody Gk.s_kind_of) (defScope Gk.s_kind_of) .none kV28 dc28 pm28 an28 cd28 ct28), sl28⟩) (c28 : PySem.W.codeIn K cd28 "kind_of" = true) (k28 : PySem.W.keepIn K (.ref f28) = true)
    {f29 : Addr} {od29 an29 : Option Addr} {sl29 : Array (Option Value)} {oc29 kV29 dc29 pm29 cd29 ct29 : Value} (a29 : PySem.W.nsIn K mainGlobals "among" = some (some (.ref f29))) (l29 : K.lookup f29 = some ⟨oc29, od29, .func (PySem.W.fnOf "among" "among" (defArgs Gk.s_among) (defBody Gk.s_among) (defScope Gk.s_among) .none kV29 dc29 pm29 an29 cd29 ct29), sl29⟩) (c29 : PySem.W.codeIn K cd29 "among" = true) (k29 : PySem.W.keepIn K (.ref f29) = true)
    {f30 : Addr} {od30 an30 : Option Addr} {sl30 : Array (Option Value)} {oc30 kV30 dc30 pm30 cd30 ct30 : Value} (a30 : PySem.W.nsIn K mainGlobals "begins" = some (some (.ref f30))) (l30 : K.lookup f30 = some ⟨oc30, od30, .func (PySem.W.fnOf "begins" "begins" (defArgs Gk.s_begins) (defBody Gk.s_begins) (defScope Gk.s_begins) .none kV30 dc30 pm30 an30 cd30 ct30), sl30⟩) (c30 : PySem.W.codeIn K cd30 "begins" = true) (k30 : PySem.W.keepIn K (.ref f30) = true)
    {f31 : Addr} {od31 an31 : Option Addr} {sl31 : Array (Option Value)} {oc31 kV31 dc31 pm31 cd31 ct31 : Value} (a31 : PySem.W.nsIn K mainGlobals "is_operator" = some (some (.ref f31))) (l31 : K.lookup f31 = some ⟨oc31, od31, .func (PySem.W.fnOf "is_operator" "is_operator" (defArgs Gk.s_is_operator) (defBody Gk.s_is_operator) (defScope Gk.s_is_operator) .none kV31 dc31 pm31 an31 cd31 ct31), sl31⟩) (c31 : PySem.W.codeIn K cd31 "is_operator" = true) (k31 : PySem.W.keepIn K (.ref f31) = true)
    {f32 : Addr} {od32 an32 : Option Addr} {sl32 : Array (Option Value)} {oc32 kV32 dc32 pm32 cd32 ct32 : Value} (a32 : PySem.W.nsIn K mainGlobals "compare" = some (some (.ref f32))) (l32 : K.lookup f32 = some ⟨oc32, od32, .func (PySem.W.fnOf "compare" "compare" (defArgs Gk.s_compare) (defBody Gk.s_compare) (defScope Gk.s_compare) .none kV32 dc32 pm32 an32 cd32 ct32), sl32⟩) (c32 : PySem.W.codeIn K cd32 "compare" = true) (k32 : PySem.W.keepIn K (.ref f32) = true)
    {f33 Dk33 : Addr} {od33 an33 : Option Addr} {sl33 : Array (Option Value)} {oc33 dc33 pm33 cd33 ct33 : Value} (a33 : PySem.W.nsIn K mainGlobals "against" = some (some (.ref f33))) (l33 : K.lookup f33 = some ⟨oc33, od33, .func (PySem.W.fnOf "against" "against" (defArgs Gk.s_against) (defBody Gk.s_against) (defScope Gk.s_against) .none (.ref Dk33) dc33 pm33 an33 cd33 ct33), sl33⟩) (c33 : PySem.W.codeIn K cd33 "against" = true) (k33 : PySem.W.keepIn K (.ref f33) = true)
    {f34 : Addr} {od34 an34 : Option Addr} {sl34 : Array (Option Value)} {oc34 kV34 dc34 pm34 cd34 ct34 : Value} (a34 : PySem.W.nsIn K mainGlobals "_law_make" = some (some (.ref f34))) (l34 : K.lookup f34 = some ⟨oc34, od34, .func (PySem.W.fnOf "_law_make" "_law_make" (defArgs Gk.s__law_make) (defBody Gk.s__law_make) (defScope Gk.s__law_make) .none kV34 dc34 pm34 an34 cd34 ct34), sl34⟩) (c34 : PySem.W.codeIn K cd34 "_law_make" = true) (k34 : PySem.W.keepIn K (.ref f34) = true)
    {f35 : Addr} {od35 an35 : Option Addr} {sl35 : Array (Option Value)} {oc35 kV35 dc35 pm35 cd35 ct35 : Value} (a35 : PySem.W.findIn K (.ref Ca3) "kind" = some (some (.ref f35))) (l35 : K.lookup f35 = some ⟨oc35, od35, .func (PySem.W.fnOf "kind" "Test.kind" (defArgs Gk.s_Test__kind) (defBody Gk.s_Test__kind) (defScope Gk.s_Test__kind) .none kV35 dc35 pm35 an35 cd35 ct35), sl35⟩) (c35 : PySem.W.codeIn K cd35 "Test.kind" = true) (k35 : PySem.W.keepIn K (.ref f35) = true) (e35 : PySem.W.isFn K (.ref f35) = true)
    {f36 : Addr} {od36 an36 : Option Addr} {sl36 : Array (Option Value)} {oc36 kV36 dc36 pm36 cd36 ct36 : Value} (a36 : PySem.W.findIn K (.ref Ca3) "data" = some (some (.ref f36))) (l36 : K.lookup f36 = some ⟨oc36, od36, .func (PySem.W.fnOf "data" "Test.data" (defArgs Gk.s_Test__data) (defBody Gk.s_Test__data) (defScope Gk.s_Test__data) .none kV36 dc36 pm36 an36 cd36 ct36), sl36⟩) (c36 : PySem.W.codeIn K cd36 "Test.data" = true) (k36 : PySem.W.keepIn K (.ref f36) = true) (e36 : PySem.W.isFn K (.ref f36) = true)
    {f37 : Addr} {od37 an37 : Option Addr} {sl37 : Array (Option Value)} {oc37 kV37 dc37 pm37 cd37 ct37 : Value} (a37 : PySem.W.findIn K (.ref Ca3) "parts" = some (some (.ref f37))) (l37 : K.lookup f37 = some ⟨oc37, od37, .func (PySem.W.fnOf "parts" "Test.parts" (defArgs Gk.s_Test__parts) (defBody Gk.s_Test__parts) (defScope Gk.s_Test__parts) .none kV37 dc37 pm37 an37 cd37 ct37), sl37⟩) (c37 : PySem.W.codeIn K cd37 "Test.parts" = true) (k37 : PySem.W.keepIn K (.ref f37) = true) (e37 : PySem.W.isFn K (.ref f37) = true)
    {f38 : Addr} {od38 an38 : Option Addr} {sl38 : Array (Option Value)} {oc38 kV38 dc38 pm38 cd38 ct38 : Value} (a38 : PySem.W.findIn K (.ref Ca3) "__eq__" = some (some (.ref f38))) (l38 : K.lookup f38 = some ⟨oc38, od38, .func (PySem.W.fnOf "__eq__" "Test.__eq__" (defArgs Gk.s_Test____eq__) (defBody Gk.s_Test____eq__) (defScope Gk.s_Test____eq__) .none kV38 dc38 pm38 an38 cd38 ct38), sl38⟩) (c38 : PySem.W.codeIn K cd38 "Test.__eq__" = true) (k38 : PySem.W.keepIn K (.ref f38) = true) (e38 : PySem.W.isFn K (.ref f38) = true)
    {f39 : Addr} {od39 an39 : Option Addr} {sl39 : Array (Option Value)} {oc39 kV39 dc39 pm39 cd39 ct39 : Value} (a39 : PySem.W.nsIn K mainGlobals "_law_are" = some (some (.ref f39))) (l39 : K.lookup f39 = some ⟨oc39, od39, .func (PySem.W.fnOf "_law_are" "_law_are" (defArgs Gk.s__law_are) (defBody Gk.s__law_are) (defScope Gk.s__law_are) .none kV39 dc39 pm39 an39 cd39 ct39), sl39⟩) (c39 : PySem.W.codeIn K cd39 "_law_are" = true) (k39 : PySem.W.keepIn K (.ref f39) = true)
    {f40 : Addr} {od40 an40 : Option Addr} {sl40 : Array (Option Value)} {oc40 kV40 dc40 pm40 cd40 ct40 : Value} (a40 : PySem.W.nsIn K mainGlobals "_law_inner" = some (some (.ref f40))) (l40 : K.lookup f40 = some ⟨oc40, od40, .func (PySem.W.fnOf "_law_inner" "_law_inner" (defArgs Gk.s__law_inner) (defBody Gk.s__law_inner) (defScope Gk.s__law_inner) .none kV40 dc40 pm40 an40 cd40 ct40), sl40⟩) (c40 : PySem.W.codeIn K cd40 "_law_inner" = true) (k40 : PySem.W.keepIn K (.ref f40) = true)
    {f41 : Addr} {od41 an41 : Option Addr} {sl41 : Array (Option Value)} {oc41 kV41 dc41 pm41 cd41 ct41 : Value} (a41 : PySem.W.nsIn K mainGlobals "_law_atoms" = some (some (.ref f41))) (l41 : K.lookup f41 = some ⟨oc41, od41, .func (PySem.W.fnOf "_law_atoms" "_law_atoms" (defArgs Gk.s__law_atoms) (defBody Gk.s__law_atoms) (defScope Gk.s__law_atoms) .none kV41 dc41 pm41 an41 cd41 ct41), sl41⟩) (c41 : PySem.W.codeIn K cd41 "_law_atoms" = true) (k41 : PySem.W.keepIn K (.ref f41) = true)
    {f42 : Addr} {od42 an42 : Option Addr} {sl42 : Array (Option Value)} {oc42 kV42 dc42 pm42 cd42 ct42 : Value} (a42 : PySem.W.nsIn K mainGlobals "_law_conjuncts" = some (some (.ref f42))) (l42 : K.lookup f42 = some ⟨oc42, od42, .func (PySem.W.fnOf "_law_conjuncts" "_law_conjuncts" (defArgs Gk.s__law_conjuncts) (defBody Gk.s__law_conjuncts) (defScope Gk.s__law_conjuncts) .none kV42 dc42 pm42 an42 cd42 ct42), sl42⟩) (c42 : PySem.W.codeIn K cd42 "_law_conjuncts" = true) (k42 : PySem.W.keepIn K (.ref f42) = true)
    {f43 : Addr} {od43 an43 : Option Addr} {sl43 : Array (Option Value)} {oc43 kV43 dc43 pm43 cd43 ct43 : Value} (a43 : PySem.W.nsIn K mainGlobals "conjuncts" = some (some (.ref f43))) (l43 : K.lookup f43 = some ⟨oc43, od43, .func (PySem.W.fnOf "conjuncts" "conjuncts" (defArgs Gk.s_conjuncts) (defBody Gk.s_conjuncts) (defScope Gk.s_conjuncts) .none kV43 dc43 pm43 an43 cd43 ct43), sl43⟩) (c43 : PySem.W.codeIn K cd43 "conjuncts" = true) (k43 : PySem.W.keepIn K (.ref f43) = true)
    {f44 : Addr} {od44 an44 : Option Addr} {sl44 : Array (Option Value)} {oc44 kV44 dc44 pm44 cd44 ct44 : Value} (a44 : PySem.W.nsIn K mainGlobals "_law_is_integer" = some (some (.ref f44))) (l44 : K.lookup f44 = some ⟨oc44, od44, .func (PySem.W.fnOf "_law_is_integer" "_law_is_integer" (defArgs Gk.s__law_is_integer) (defBody Gk.s__law_is_integer) (defScope Gk.s__law_is_integer) .none kV44 dc44 pm44 an44 cd44 ct44), sl44⟩) (c44 : PySem.W.codeIn K cd44 "_law_is_integer" = true) (k44 : PySem.W.keepIn K (.ref f44) = true)
    {f45 : Addr} {od45 an45 : Option Addr} {sl45 : Array (Option Value)} {oc45 kV45 dc45 pm45 cd45 ct45 : Value} (a45 : PySem.W.nsIn K mainGlobals "_law_levels" = some (some (.ref f45))) (l45 : K.lookup f45 = some ⟨oc45, od45, .func (PySem.W.fnOf "_law_levels" "_law_levels" (defArgs Gk.s__law_levels) (defBody Gk.s__law_levels) (defScope Gk.s__law_levels) .none kV45 dc45 pm45 an45 cd45 ct45), sl45⟩) (c45 : PySem.W.codeIn K cd45 "_law_levels" = true) (k45 : PySem.W.keepIn K (.ref f45) = true)
    {f46 : Addr} {od46 an46 : Option Addr} {sl46 : Array (Option Value)} {oc46 kV46 dc46 pm46 cd46 ct46 : Value} (a46 : PySem.W.nsIn K mainGlobals "columns_of" = some (some (.ref f46))) (l46 : K.lookup f46 = some ⟨oc46, od46, .func (PySem.W.fnOf "columns_of" "columns_of" (defArgs Gk.s_columns_of) (defBody Gk.s_columns_of) (defScope Gk.s_columns_of) .none kV46 dc46 pm46 an46 cd46 ct46), sl46⟩) (c46 : PySem.W.codeIn K cd46 "columns_of" = true) (k46 : PySem.W.keepIn K (.ref f46) = true)
    {f47 : Addr} {od47 an47 : Option Addr} {sl47 : Array (Option Value)} {oc47 kV47 dc47 pm47 cd47 ct47 : Value} (a47 : PySem.W.nsIn K mainGlobals "sorted_plain" = some (some (.ref f47))) (l47 : K.lookup f47 = some ⟨oc47, od47, .func (PySem.W.fnOf "sorted_plain" "sorted_plain" (defArgs Gk.s_sorted_plain) (defBody Gk.s_sorted_plain) (defScope Gk.s_sorted_plain) .none kV47 dc47 pm47 an47 cd47 ct47), sl47⟩) (c47 : PySem.W.codeIn K cd47 "sorted_plain" = true) (k47 : PySem.W.keepIn K (.ref f47) = true)
    {f48 : Addr} {od48 an48 : Option Addr} {sl48 : Array (Option Value)} {oc48 kV48 dc48 pm48 cd48 ct48 : Value} (a48 : PySem.W.findIn K (.ref Ca3) "names" = some (some (.ref f48))) (l48 : K.lookup f48 = some ⟨oc48, od48, .func (PySem.W.fnOf "names" "Test.names" (defArgs Gk.s_Test__names) (defBody Gk.s_Test__names) (defScope Gk.s_Test__names) .none kV48 dc48 pm48 an48 cd48 ct48), sl48⟩) (c48 : PySem.W.codeIn K cd48 "Test.names" = true) (k48 : PySem.W.keepIn K (.ref f48) = true) (e48 : PySem.W.isFn K (.ref f48) = true)
    {f49 : Addr} {od49 an49 : Option Addr} {sl49 : Array (Option Value)} {oc49 kV49 dc49 pm49 cd49 ct49 : Value} (a49 : PySem.W.nsIn K mainGlobals "_law_atom_names" = some (some (.ref f49))) (l49 : K.lookup f49 = some ⟨oc49, od49, .func (PySem.W.fnOf "_law_atom_names" "_law_atom_names" (defArgs Gk.s__law_atom_names) (defBody Gk.s__law_atom_names) (defScope Gk.s__law_atom_names) .none kV49 dc49 pm49 an49 cd49 ct49), sl49⟩) (c49 : PySem.W.codeIn K cd49 "_law_atom_names" = true) (k49 : PySem.W.keepIn K (.ref f49) = true)
    {f50 : Addr} {od50 an50 : Option Addr} {sl50 : Array (Option Value)} {oc50 kV50 dc50 pm50 cd50 ct50 : Value} (a50 : PySem.W.nsIn K mainGlobals "_law_names" = some (some (.ref f50))) (l50 : K.lookup f50 = some ⟨oc50, od50, .func (PySem.W.fnOf "_law_names" "_law_names" (defArgs Gk.s__law_names) (defBody Gk.s__law_names) (defScope Gk.s__law_names) .none kV50 dc50 pm50 an50 cd50 ct50), sl50⟩) (c50 : PySem.W.codeIn K cd50 "_law_names" = true) (k50 : PySem.W.keepIn K (.ref f50) = true)
    {f51 : Addr} {od51 an51 : Option Addr} {sl51 : Array (Option Value)} {oc51 kV51 dc51 pm51 cd51 ct51 : Value} (a51 : PySem.W.nsIn K mainGlobals "_law_agrees" = some (some (.ref f51))) (l51 : K.lookup f51 = some ⟨oc51, od51, .func (PySem.W.fnOf "_law_agrees" "_law_agrees" (defArgs Gk.s__law_agrees) (defBody Gk.s__law_agrees) (defScope Gk.s__law_agrees) .none kV51 dc51 pm51 an51 cd51 ct51), sl51⟩) (c51 : PySem.W.codeIn K cd51 "_law_agrees" = true) (k51 : PySem.W.keepIn K (.ref f51) = true)
    {f52 : Addr} {od52 an52 : Option Addr} {sl52 : Array (Option Value)} {oc52 kV52 dc52 pm52 cd52 ct52 : Value} (a52 : PySem.W.nsIn K mainGlobals "law" = some (some (.ref f52))) (l52 : K.lookup f52 = some ⟨oc52, od52, .func (PySem.W.fnOf "law" "law" (defArgs Gk.s_law) (defBody Gk.s_law) (defScope Gk.s_law) .none kV52 dc52 pm52 an52 cd52 ct52), sl52⟩) (c52 : PySem.W.codeIn K cd52 "law" = true) (k52 : PySem.W.keepIn K (.ref f52) = true)
    {tk3401 : Tok}  (kd33_0 : PySem.W.nsIn K Dk33 "more" = some (some (.int 0 tk3401)))
    (z0 : PySem.W.nsIn K mainGlobals "bool" = some none)
    (z1 : PySem.W.nsIn K mainGlobals "int" = some none)
    (z2 : PySem.W.nsIn K mainGlobals "isinstance" = some none)
    (z3 : PySem.W.nsIn K mainGlobals "len" = some none)
    (z4 : PySem.W.nsIn K mainGlobals "list" = some none)
    (z5 : PySem.W.nsIn K mainGlobals "max" = some none)
    (z6 : PySem.W.nsIn K mainGlobals "range" = some none)
    (z7 : PySem.W.nsIn K mainGlobals "sorted" = some none)
    (z8 : PySem.W.nsIn K mainGlobals "str" = some none)
    (z9 : PySem.W.nsIn K mainGlobals "tuple" = some none)
    {tk1 : Tok}  (cn0 : PySem.W.nsIn K mainGlobals "CHARS" = some (some (.str " !\"#$&'()*+,-./0123456789:;<=>?@ABCDEFGHIJKLMNOPQRSTUVWXYZ[\\]^_`abcdefghijklmnopqrstuvwxyz{|}~" tk1)))
    {tk2 : Tok}  (cn1 : PySem.W.nsIn K mainGlobals "DIGITS" = some (some (.str "0123456789" tk2)))
    {tk4 : Tok} {tk5 : Tok} {tk6 : Tok} {tk7 : Tok} {tk8 : Tok} {tk9 : Tok} {tk10 : Tok} {tk11 : Tok} {tk12 : Tok} {tk13 : Tok} {ta3 : Addr} {td3 : Option Addr} {tn3 : Nat} {ts3 : Array (Option Value)} (w3 : K.lookup ta3 = some ⟨.type "tuple", td3, .seq #[(.str "and" tk4), (.str "or" tk5), (.str "not" tk6), (.str "sure" tk7), (.str "in" tk8), (.str "is" tk9), (.str "empty" tk10), (.str "begins" tk11), (.str "always" tk12), (.str "never" tk13)] tn3, ts3⟩) (cn2 : PySem.W.nsIn K mainGlobals "KEPT_WORDS" = some (some (.ref ta3)))
    {tk14 : Tok}  (cn3 : PySem.W.nsIn K mainGlobals "LETTERS" = some (some (.str "abcdefghijklmnopqrstuvwxyz" tk14)))
    {tk15 : Tok}  (cn4 : PySem.W.nsIn K mainGlobals "MOST_ATOMS" = some (some (.int 24 tk15)))
    {tk16 : Tok}  (cn5 : PySem.W.nsIn K mainGlobals "MOST_LEVELS" = some (some (.int 12 tk16)))
    {tk18 : Tok} {tk19 : Tok} {tk20 : Tok} {tk21 : Tok} {tk22 : Tok} {tk23 : Tok} {ta17 : Addr} {td17 : Option Addr} {tn17 : Nat} {ts17 : Array (Option Value)} (w17 : K.lookup ta17 = some ⟨.type "tuple", td17, .seq #[(.str "<" tk18), (.str "<=" tk19), (.str "==" tk20), (.str "!=" tk21), (.str ">" tk22), (.str ">=" tk23)] tn17, ts17⟩) (cn6 : PySem.W.nsIn K mainGlobals "OPERATORS" = some (some (.ref ta17))) :
    ∃ fd : FuncData, (∀ (s : Shared) (v : Value), BindsTo s fd ⟨[v], []⟩ [("_law_script", v)]) ∧ ∀ base : Heap, K.In base → base.Ns mainGlobals mg → FnOk P w K mg base (L2.CX P w) 129 fa fd ["_law_script"] (SpL K Gk.m_law) := by
  have cl3 : Cls K Ca3 := ⟨pg3, hd3, po3, sa3⟩
  have hD3 : ∀ C, (Gk.DW K mg).T 3 C → mg "Test" = some (.ref C) := fun C t => Gk.cls_3.mp t
  have hE3 : ∀ C, mg "Test" = some (.ref C) → (Gk.DW K mg).T 3 C := fun C t => Gk.cls_3.mpr t
  have mgc3 : mg "Test" = some (.ref Ca3) := PySem.W.mg_of X G ca3
  have is3 : IsF K Ca3 := ⟨⟨cl3, ha3, hn0, ht0, hm3⟩, fun T => by cases T <;> assumption⟩
  have hT : IsAll (Gk.DW K mg) := by
    intro c C t
    rcases (show Gk.clsT mg c C from t) with ⟨rfl, t2⟩
    have e := mgc3.symm.trans t2
    cases e
    exact is3
  have ic3 : IsAt (Gk.DW K mg) mg "Test" [3] := by
    refine ⟨Ca3, mgc3, ?_, ?_⟩
    · intro n hn
      simp only [List.mem_cons, List.not_mem_nil, or_false] at hn
      rcases hn with rfl | rfl | rfl | rfl | rfl | rfl | rfl <;> assumption
    · intro c C t
      rcases (show Gk.clsT mg c C from t) with ⟨rfl, t2⟩
      have e := mgc3.symm.trans t2
      cases e
      exact kc3_3
  have du3 : DunAt (Gk.DW K mg) 3 := by
    refine ⟨fun C t => ?_, fun C C2 t t2 => ?_⟩
    · have e := mgc3.symm.trans (hD3 C t)
      cases e
      exact sf3
    · have e := (hD3 C t).symm.trans (hD3 C2 t2)
      cases e
      rfl
  have mgc24 : mg "BadTest" = some (.ref Ca24) := PySem.W.mg_of X G ca24
  have XC24 : XcC K Ca24 := ⟨xa24, xb24, xc24, xd24, xe24, xf24, xg24⟩
  have hX24 : (Gk.DW K mg).E 24 Ca24 := by show Gk.excT mg 24 Ca24; unfold Gk.excT; simp [mgc24]
  have B : Gk.BN K mg := ⟨hT, PySem.W.mg_none_of X G z0, PySem.W.mg_none_of X G z1, PySem.W.mg_none_of X G z2, PySem.W.mg_none_of X G z3, PySem.W.mg_none_of X G z4, PySem.W.mg_none_of X G z5, PySem.W.mg_none_of X G z6, PySem.W.mg_none_of X G z7, PySem.W.mg_none_of X G z8, PySem.W.mg_none_of X G z9, glv_mk X G cn0 kv_str, glv_mk X G cn1 kv_str, glv_mk X G cn2 (kv_tup w3 (.cons kv_str (.cons kv_str (.cons kv_str (.cons kv_str (.cons kv_str (.cons kv_str (.cons kv_str (.cons kv_str (.cons kv_str (.cons kv_str .nil)))))))))) (by decide)), glv_mk X G cn3 kv_str, glv_mk X G cn4 kv_int, glv_mk X G cn5 kv_int, glv_mk X G cn6 (kv_tup w17 (.cons kv_str (.cons kv_str (.cons kv_str (.cons kv_str (.cons kv_str (.cons kv_str .nil)))))) (by decide)), cf_mk X G rfl hD3 ca3 cl3 nf3__data, cf_mk X G rfl hD3 ca3 cl3 nf3__kind, cf_mk X G rfl hD3 ca3 cl3 nf3__parts, ic3, du3⟩
  have D__law_begin : DefAt K mg "_law_begin" Gk.s__law_begin ["_law_script"] := defAt_mk X G a0 l0 c0 k0 fun _ _ _ _ _ _ us hl => match us, hl with | [_], _ => rfl
  have D__law_take : DefAt K mg "_law_take" Gk.s__law_take ["_law_draw", "_law_many"] := defAt_mk X G a1 l1 c1 k1 fun _ _ _ _ _ _ us hl => match us, hl with | [_, _], _ => rfl
  have D__law_name : DefAt K mg "_law_name" Gk.s__law_name ["_law_draw", "_law_taken"] := defAt_mk X G a2 l2 c2 k2 fun _ _ _ _ _ _ us hl => match us, hl with | [_, _], _ => rfl
  have D__law_columns : DefAt K mg "_law_columns" Gk.s__law_columns ["_law_draw", "_law_most"] := defAt_mk X G a3 l3 c3 k3 fun _ _ _ _ _ _ us hl => match us, hl with | [_, _], _ => rfl
  have D__law_wrapped : DefAt K mg "_law_wrapped" Gk.s__law_wrapped ["_law_form_here", "_law_choice"] := defAt_mk X G a4 l4 c4 k4 fun _ _ _ _ _ _ us hl => match us, hl with | [_, _], _ => rfl
  have D__law_number : DefAt K mg "_law_number" Gk.s__law_number ["_law_draw"] := defAt_mk X G a5 l5 c5 k5 fun _ _ _ _ _ _ us hl => match us, hl with | [_], _ => rfl
  have D__law_chars : DefAt K mg "_law_chars" Gk.s__law_chars [] := defAt_mk X G a6 l6 c6 k6 fun _ _ _ _ _ _ us hl => match us, hl with | [], _ => rfl
  have D__law_text : DefAt K mg "_law_text" Gk.s__law_text ["_law_draw"] := defAt_mk X G a7 l7 c7 k7 fun _ _ _ _ _ _ us hl => match us, hl with | [_], _ => rfl
  have D__law_value : DefAt K mg "_law_value" Gk.s__law_value ["_law_draw", "_law_kind"] := defAt_mk X G a8 l8 c8 k8 fun _ _ _ _ _ _ us hl => match us, hl with | [_, _], _ => rfl
  have D__law_atom : DefAt K mg "_law_atom" Gk.s__law_atom ["_law_draw", "_law_columns_here"] := defAt_mk X G a9 l9 c9 k9 fun _ _ _ _ _ _ us hl => match us, hl with | [_, _], _ => rfl
  have D__law_form : DefAt K mg "_law_form" Gk.s__law_form ["_law_draw", "_law_columns_here", "_law_most"] := defAt_mk X G a10 l10 c10 k10 fun _ _ _ _ _ _ us hl => match us, hl with | [_, _, _], _ => rfl
  have D_BadTest____init__ : DefXc K mg (Gk.DW K mg) 24 "BadTest" "BadTest.__init__" Gk.s_BadTest____init__ ["self", "why"] ["why"] := defXc_mk X G hX24 ca24 XC24 (by intro y hy; simp only [List.mem_cons, List.not_mem_nil, or_false] at hy; rcases hy with rfl <;> assumption) a11 e11 l11 c11 k11 (fun _ _ _ _ _ _ us hl => match us, hl with | [_, _], _ => rfl)
  have D_Test__atoms : DefMt K (Gk.DW K mg) 3 "atoms" "Test.atoms" Gk.s_Test__atoms ["self"] := defMt_mk X G hD3 ca3 cl3 a12 l12 c12 e12 k12 (fun _ _ _ _ _ _ us hl => match us, hl with | [_], _ => rfl)
  have D_Test__levels : DefMt K (Gk.DW K mg) 3 "levels" "Test.levels" Gk.s_Test__levels ["self"] := defMt_mk X G hD3 ca3 cl3 a13 l13 c13 e13 k13 (fun _ _ _ _ _ _ us hl => match us, hl with | [_], _ => rfl)
  have D_limited : DefAt K mg "limited" Gk.s_limited ["test"] := defAt_mk X G a14 l14 c14 k14 fun _ _ _ _ _ _ us hl => match us, hl with | [_], _ => rfl
  have D_Test____init__ : DefMk K mg (Gk.DW K mg) 3 "Test" "Test.__init__" Gk.s_Test____init__ ["self", "kind", "data", "parts"] := defMk_mk X G hE3 ca3 mk3 a15 kp3 l15 c15 e15 k15 (fun _ _ _ _ _ _ us hl => match us, hl with | [_, _, _, _], _ => rfl)
  have D_combine : DefAt K mg "combine" Gk.s_combine ["kind", "one", "other"] := defAt_mk X G a16 l16 c16 k16 fun _ _ _ _ _ _ us hl => match us, hl with | [_, _, _], _ => rfl
  have D_Test____and__ : DefMt K (Gk.DW K mg) 3 "__and__" "Test.__and__" Gk.s_Test____and__ ["self", "other"] := defMt_mk X G hD3 ca3 cl3 a17 l17 c17 e17 k17 (fun _ _ _ _ _ _ us hl => match us, hl with | [_, _], _ => rfl)
  have D_Test____or__ : DefMt K (Gk.DW K mg) 3 "__or__" "Test.__or__" Gk.s_Test____or__ ["self", "other"] := defMt_mk X G hD3 ca3 cl3 a18 l18 c18 e18 k18 (fun _ _ _ _ _ _ us hl => match us, hl with | [_, _], _ => rfl)
  have D_Test____invert__ : DefMt K (Gk.DW K mg) 3 "__invert__" "Test.__invert__" Gk.s_Test____invert__ ["self"] := defMt_mk X G hD3 ca3 cl3 a19 l19 c19 e19 k19 (fun _ _ _ _ _ _ us hl => match us, hl with | [_], _ => rfl)
  have D_sure : DefAt K mg "sure" Gk.s_sure ["test"] := defAt_mk X G a20 l20 c20 k20 fun _ _ _ _ _ _ us hl => match us, hl with | [_], _ => rfl
  have D_always : DefAt K mg "always" Gk.s_always [] := defAt_mk X G a21 l21 c21 k21 fun _ _ _ _ _ _ us hl => match us, hl with | [], _ => rfl
  have D_never : DefAt K mg "never" Gk.s_never [] := defAt_mk X G a22 l22 c22 k22 fun _ _ _ _ _ _ us hl => match us, hl with | [], _ => rfl
  have D_is_name : DefAt K mg "is_name" Gk.s_is_name ["thing"] := defAt_mk X G a23 l23 c23 k23 fun _ _ _ _ _ _ us hl => match us, hl with | [_], _ => rfl
  have D_empty : DefAt K mg "empty" Gk.s_empty ["column"] := defAt_mk X G a24 l24 c24 k24 fun _ _ _ _ _ _ us hl => match us, hl with | [_], _ => rfl
  have D_is_sequence : DefAt K mg "is_sequence" Gk.s_is_sequence ["thing"] := defAt_mk X G a25 l25 c25 k25 fun _ _ _ _ _ _ us hl => match us, hl with | [_], _ => rfl
  have D_is_integer : DefAt K mg "is_integer" Gk.s_is_integer ["thing"] := defAt_mk X G a26 l26 c26 k26 fun _ _ _ _ _ _ us hl => match us, hl with | [_], _ => rfl
  have D_is_text : DefAt K mg "is_text" Gk.s_is_text ["thing"] := defAt_mk X G a27 l27 c27 k27 fun _ _ _ _ _ _ us hl => match us, hl with | [_], _ => rfl
  have D_kind_of : DefAt K mg "kind_of" Gk.s_kind_of ["value"] := defAt_mk X G a28 l28 c28 k28 fun _ _ _ _ _ _ us hl => match us, hl with | [_], _ => rfl
  have D_among : DefAt K mg "among" Gk.s_among ["column", "values"] := defAt_mk X G a29 l29 c29 k29 fun _ _ _ _ _ _ us hl => match us, hl with | [_, _], _ => rfl
  have D_begins : DefAt K mg "begins" Gk.s_begins ["column", "prefix"] := defAt_mk X G a30 l30 c30 k30 fun _ _ _ _ _ _ us hl => match us, hl with | [_, _], _ => rfl
  have D_is_operator : DefAt K mg "is_operator" Gk.s_is_operator ["op"] := defAt_mk X G a31 l31 c31 k31 fun _ _ _ _ _ _ us hl => match us, hl with | [_], _ => rfl
  have D_compare : DefAt K mg "compare" Gk.s_compare ["column", "op", "value"] := defAt_mk X G a32 l32 c32 k32 fun _ _ _ _ _ _ us hl => match us, hl with | [_, _, _], _ => rfl
  have SH_against : ∀ sh ∈ ([⟨3, [], [.at 0, .at 1, .at 2, .df 0 (.int 0)]⟩, ⟨3, ["more"], [.at 0, .at 1, .at 2, .at 3]⟩] : List Sh), KwB K (Gk.DW K mg) (PySem.W.fnOf "against" "against" (defArgs Gk.s_against) (defBody Gk.s_against) (defScope Gk.s_against) .none (.ref Dk33) dc33 pm33 an33 cd33 ct33) ["column", "op", "other", "more"] sh.n sh.ks sh.arr := by
    intro sh hsh
    simp only [List.mem_cons, List.not_mem_nil, or_false] at hsh
    rcases hsh with rfl | rfl
    · obtain ⟨y0, r0, s0⟩ : KV1 (Gk.DW K mg) (.int 0 tk3401) (.int 0) := kv_int
      have hd : ∀ j x, Src.df j x ∈ [.at 0, .at 1, .at 2, .df 0 (.int 0)] → RelV ((fun j => if j = 0 then y0 else .non) j) ((fun j => if j = 0 then (.int 0 tk3401) else .none) j) ∧ ∀ G, Rep (Gk.DW K mg) G x ((fun j => if j = 0 then y0 else .non) j) := by
        intro j x hx
        simp only [List.mem_cons, List.not_mem_nil, or_false, reduceCtorEq, false_or, Src.df.injEq] at hx
        rcases hx with ⟨rfl, rfl⟩ <;> simp <;> (refine ⟨?_, ?_⟩ <;> assumption)
      refine kwB_mk (Dk := Dk33) ["more"] (fun j => if j = 0 then (.int 0 tk3401) else .none) (fun j => if j = 0 then y0 else .non) hd [(.int 0 tk3401)] ?_ ?_
      · intro q hq
        simp only [List.zip_cons_cons, List.zip_nil_right, List.mem_cons, List.not_mem_nil, or_false] at hq
        rcases hq with rfl <;> assumption
      · exact fun us ws h1 h2 => match us, h1, ws, h2 with
        | [u0, u1, u2], _, [], _ => ⟨_, _, _, _, _, _, rfl, rfl, rfl⟩
    · have hd : ∀ j x, Src.df j x ∈ [.at 0, .at 1, .at 2, .at 3] → RelV ((fun j => .non) j) ((fun j => .none) j) ∧ ∀ G, Rep (Gk.DW K mg) G x ((fun j => .non) j) := by intro j x hx; simp at hx
      refine kwB_mk (Dk := Dk33) [] (fun j => .none) (fun j => .non) hd [] ?_ ?_
      · intro q hq
        simp at hq
      · exact fun us ws h1 h2 => match us, h1, ws, h2 with
        | [u0, u1, u2], _, [w0], _ => rfl
  have D_against : DefAtK K mg (Gk.DW K mg) "against" Gk.s_against ["column", "op", "other", "more"] [⟨3, [], [.at 0, .at 1, .at 2, .df 0 (.int 0)]⟩, ⟨3, ["more"], [.at 0, .at 1, .at 2, .at 3]⟩] := defAtK_mk X G a33 l33 c33 k33 SH_against
  have D__law_make : DefAt K mg "_law_make" Gk.s__law_make ["_law_form_here"] := defAt_mk X G a34 l34 c34 k34 fun _ _ _ _ _ _ us hl => match us, hl with | [_], _ => rfl
  have D_Test__kind : DefMt K (Gk.DW K mg) 3 "kind" "Test.kind" Gk.s_Test__kind ["self"] := defMt_mk X G hD3 ca3 cl3 a35 l35 c35 e35 k35 (fun _ _ _ _ _ _ us hl => match us, hl with | [_], _ => rfl)
  have D_Test__data : DefMt K (Gk.DW K mg) 3 "data" "Test.data" Gk.s_Test__data ["self"] := defMt_mk X G hD3 ca3 cl3 a36 l36 c36 e36 k36 (fun _ _ _ _ _ _ us hl => match us, hl with | [_], _ => rfl)
  have D_Test__parts : DefMt K (Gk.DW K mg) 3 "parts" "Test.parts" Gk.s_Test__parts ["self"] := defMt_mk X G hD3 ca3 cl3 a37 l37 c37 e37 k37 (fun _ _ _ _ _ _ us hl => match us, hl with | [_], _ => rfl)
  have D_Test____eq__ : DefMt K (Gk.DW K mg) 3 "__eq__" "Test.__eq__" Gk.s_Test____eq__ ["self", "other"] := defMt_mk X G hD3 ca3 cl3 a38 l38 c38 e38 k38 (fun _ _ _ _ _ _ us hl => match us, hl with | [_, _], _ => rfl)
  have D__law_are : DefAt K mg "_law_are" Gk.s__law_are ["_law_tests", "_law_forms"] := defAt_mk X G a39 l39 c39 k39 fun _ _ _ _ _ _ us hl => match us, hl with | [_, _], _ => rfl
  have D__law_inner : DefAt K mg "_law_inner" Gk.s__law_inner ["_law_form_here"] := defAt_mk X G a40 l40 c40 k40 fun _ _ _ _ _ _ us hl => match us, hl with | [_], _ => rfl
  have D__law_atoms : DefAt K mg "_law_atoms" Gk.s__law_atoms ["_law_form_here"] := defAt_mk X G a41 l41 c41 k41 fun _ _ _ _ _ _ us hl => match us, hl with | [_], _ => rfl
  have D__law_conjuncts : DefAt K mg "_law_conjuncts" Gk.s__law_conjuncts ["_law_form_here"] := defAt_mk X G a42 l42 c42 k42 fun _ _ _ _ _ _ us hl => match us, hl with | [_], _ => rfl
  have D_conjuncts : DefAt K mg "conjuncts" Gk.s_conjuncts ["test"] := defAt_mk X G a43 l43 c43 k43 fun _ _ _ _ _ _ us hl => match us, hl with | [_], _ => rfl
  have D__law_is_integer : DefAt K mg "_law_is_integer" Gk.s__law_is_integer ["_law_thing"] := defAt_mk X G a44 l44 c44 k44 fun _ _ _ _ _ _ us hl => match us, hl with | [_], _ => rfl
  have D__law_levels : DefAt K mg "_law_levels" Gk.s__law_levels ["_law_form_here"] := defAt_mk X G a45 l45 c45 k45 fun _ _ _ _ _ _ us hl => match us, hl with | [_], _ => rfl
  have D_columns_of : DefAt K mg "columns_of" Gk.s_columns_of ["atom"] := defAt_mk X G a46 l46 c46 k46 fun _ _ _ _ _ _ us hl => match us, hl with | [_], _ => rfl
  have D_sorted_plain : DefAt K mg "sorted_plain" Gk.s_sorted_plain ["items"] := defAt_mk X G a47 l47 c47 k47 fun _ _ _ _ _ _ us hl => match us, hl with | [_], _ => rfl
  have D_Test__names : DefMt K (Gk.DW K mg) 3 "names" "Test.names" Gk.s_Test__names ["self"] := defMt_mk X G hD3 ca3 cl3 a48 l48 c48 e48 k48 (fun _ _ _ _ _ _ us hl => match us, hl with | [_], _ => rfl)
  have D__law_atom_names : DefAt K mg "_law_atom_names" Gk.s__law_atom_names ["_law_atom_here"] := defAt_mk X G a49 l49 c49 k49 fun _ _ _ _ _ _ us hl => match us, hl with | [_], _ => rfl
  have D__law_names : DefAt K mg "_law_names" Gk.s__law_names ["_law_form_here"] := defAt_mk X G a50 l50 c50 k50 fun _ _ _ _ _ _ us hl => match us, hl with | [_], _ => rfl
  have D__law_agrees : DefAt K mg "_law_agrees" Gk.s__law_agrees ["_law_test", "_law_form_here"] := defAt_mk X G a51 l51 c51 k51 fun _ _ _ _ _ _ us hl => match us, hl with | [_, _], _ => rfl
  have D_law : DefAt K mg "law" Gk.s_law ["_law_script"] := defAt_mk X G a52 l52 c52 k52 fun _ _ _ _ _ _ us hl => match us, hl with | [_], _ => rfl
  refine law_fn2 (D := Gk.DW K mg) rfl X G hfa a52 l52 c52 k52 (fun s v => .of_eq rfl) fun base => ?_
  have C__law_begin : FnAt P w K mg base (Gk.DW K mg) 1 "_law_begin" ["_law_script"] Gk.m__law_begin := Gk.ok__law_begin B D__law_begin
  have C__law_take : FnAt P w K mg base (Gk.DW K mg) 1 "_law_take" ["_law_draw", "_law_many"] Gk.m__law_take := Gk.ok__law_take B D__law_take
  have C__law_name : FnAt P w K mg base (Gk.DW K mg) 2 "_law_name" ["_law_draw", "_law_taken"] Gk.m__law_name := Gk.ok__law_name B C__law_take D__law_name
  have C__law_columns : FnAt P w K mg base (Gk.DW K mg) 3 "_law_columns" ["_law_draw", "_law_most"] Gk.m__law_columns := Gk.ok__law_columns B C__law_take C__law_name D__law_columns
  have C__law_wrapped : FnAt P w K mg base (Gk.DW K mg) 1 "_law_wrapped" ["_law_form_here", "_law_choice"] Gk.m__law_wrapped := Gk.ok__law_wrapped B D__law_wrapped
  have C__law_number : FnAt P w K mg base (Gk.DW K mg) 2 "_law_number" ["_law_draw"] Gk.m__law_number := Gk.ok__law_number B C__law_take D__law_number
  have C__law_chars : FnAt P w K mg base (Gk.DW K mg) 1 "_law_chars" [] Gk.m__law_chars := Gk.ok__law_chars B D__law_chars
  have C__law_text : FnAt P w K mg base (Gk.DW K mg) 2 "_law_text" ["_law_draw"] Gk.m__law_text := Gk.ok__law_text B C__law_take C__law_chars D__law_text
  have C__law_value : FnAt P w K mg base (Gk.DW K mg) 3 "_law_value" ["_law_draw", "_law_kind"] Gk.m__law_value := Gk.ok__law_value B C__law_number C__law_text D__law_value
  have C__law_atom : FnAt P w K mg base (Gk.DW K mg) 4 "_law_atom" ["_law_draw", "_law_columns_here"] Gk.m__law_atom := Gk.ok__law_atom B C__law_take C__law_value C__law_text C__law_number D__law_atom
  have C__law_form : FnAt P w K mg base (Gk.DW K mg) 5 "_law_form" ["_law_draw", "_law_columns_here", "_law_most"] Gk.m__law_form := Gk.ok__law_form B C__law_take C__law_wrapped C__law_atom D__law_form
  have C_BadTest____init__ : XcAt P w K mg base (Gk.DW K mg) 1 24 "BadTest" ["why"] := Gk.ok_BadTest____init__ B D_BadTest____init__
  have C_Test__atoms : MtAt P w K mg base (Gk.DW K mg) 40 "atoms" 3 (Gk.m_Test__atoms 40) := Gk.ok_Test__atoms B D_Test__atoms
  have C_Test__levels : MtAt P w K mg base (Gk.DW K mg) 40 "levels" 3 (Gk.m_Test__levels 40) := Gk.ok_Test__levels B D_Test__levels
  have C_limited : FnAt P w K mg base (Gk.DW K mg) 42 "limited" ["test"] Gk.m_limited := Gk.ok_limited B C_Test__atoms C_BadTest____init__ C_Test__levels D_limited
  have C_Test____init__ : MkAt P w K mg base (Gk.DW K mg) 1 3 "Test" Gk.m_Test____init__ := Gk.ok_Test____init__ B D_Test____init__
  have C_combine : FnAt P w K mg base (Gk.DW K mg) 44 "combine" ["kind", "one", "other"] Gk.m_combine := Gk.ok_combine B C_BadTest____init__ C_limited C_Test____init__ D_combine
  have C_Test____and__ : MtAt P w K mg base (Gk.DW K mg) 45 "__and__" 3 Gk.m_Test____and__ := Gk.ok_Test____and__ B C_combine D_Test____and__
  have C_Test____or__ : MtAt P w K mg base (Gk.DW K mg) 45 "__or__" 3 Gk.m_Test____or__ := Gk.ok_Test____or__ B C_combine D_Test____or__
  have C_Test____invert__ : MtAt P w K mg base (Gk.DW K mg) 44 "__invert__" 3 Gk.m_Test____invert__ := Gk.ok_Test____invert__ B C_limited C_Test____init__ D_Test____invert__
  have C_sure : FnAt P w K mg base (Gk.DW K mg) 44 "sure" ["test"] Gk.m_sure := Gk.ok_sure B C_BadTest____init__ C_limited C_Test____init__ D_sure
  have C_always : FnAt P w K mg base (Gk.DW K mg) 3 "always" [] Gk.m_always := Gk.ok_always B C_Test____init__ D_always
  have C_never : FnAt P w K mg base (Gk.DW K mg) 3 "never" [] Gk.m_never := Gk.ok_never B C_Test____init__ D_never
  have C_is_name : FnAt P w K mg base (Gk.DW K mg) 1 "is_name" ["thing"] Gk.m_is_name := Gk.ok_is_name B D_is_name
  have C_empty : FnAt P w K mg base (Gk.DW K mg) 3 "empty" ["column"] Gk.m_empty := Gk.ok_empty B C_is_name C_BadTest____init__ C_Test____init__ D_empty
  have C_is_sequence : FnAt P w K mg base (Gk.DW K mg) 1 "is_sequence" ["thing"] Gk.m_is_sequence := Gk.ok_is_sequence B D_is_sequence
  have C_is_integer : FnAt P w K mg base (Gk.DW K mg) 1 "is_integer" ["thing"] Gk.m_is_integer := Gk.ok_is_integer B D_is_integer
  have C_is_text : FnAt P w K mg base (Gk.DW K mg) 1 "is_text" ["thing"] Gk.m_is_text := Gk.ok_is_text B D_is_text
  have C_kind_of : FnAt P w K mg base (Gk.DW K mg) 2 "kind_of" ["value"] Gk.m_kind_of := Gk.ok_kind_of B C_is_integer C_is_text D_kind_of
  have C_among : FnAt P w K mg base (Gk.DW K mg) 4 "among" ["column", "values"] Gk.m_among := Gk.ok_among B C_is_name C_BadTest____init__ C_is_sequence C_kind_of C_Test____init__ D_among
  have C_begins : FnAt P w K mg base (Gk.DW K mg) 3 "begins" ["column", "prefix"] Gk.m_begins := Gk.ok_begins B C_is_name C_BadTest____init__ C_is_text C_Test____init__ D_begins
  have C_is_operator : FnAt P w K mg base (Gk.DW K mg) 1 "is_operator" ["op"] Gk.m_is_operator := Gk.ok_is_operator B D_is_operator
  have C_compare : FnAt P w K mg base (Gk.DW K mg) 4 "compare" ["column", "op", "value"] Gk.m_compare := Gk.ok_compare B C_is_name C_BadTest____init__ C_is_operator C_kind_of C_Test____init__ D_compare
  have C_against : FnAtK P w K mg base (Gk.DW K mg) 3 "against" ["column", "op", "other", "more"] [⟨3, [], [.at 0, .at 1, .at 2, .df 0 (.int 0)]⟩, ⟨3, ["more"], [.at 0, .at 1, .at 2, .at 3]⟩] Gk.m_against := Gk.ok_against B C_is_name C_BadTest____init__ C_is_operator C_is_integer C_Test____init__ D_against
  have C__law_make : FnAt P w K mg base (Gk.DW K mg) 85 "_law_make" ["_law_form_here"] (Gk.m__law_make 40) := Gk.ok__law_make B C_Test____and__ C_Test____or__ C_Test____invert__ C_sure C_always C_never C_empty C_among C_begins C_compare C_against D__law_make
  have C_Test__kind : MtAt P w K mg base (Gk.DW K mg) 1 "kind" 3 Gk.m_Test__kind := Gk.ok_Test__kind B D_Test__kind
  have C_Test__data : MtAt P w K mg base (Gk.DW K mg) 1 "data" 3 Gk.m_Test__data := Gk.ok_Test__data B D_Test__data
  have C_Test__parts : MtAt P w K mg base (Gk.DW K mg) 1 "parts" 3 Gk.m_Test__parts := Gk.ok_Test__parts B D_Test__parts
  have C_Test____eq__ : MtAt P w K mg base (Gk.DW K mg) 81 "__eq__" 3 (Gk.m_Test____eq__ 40) := Gk.ok_Test____eq__ B C_Test__kind C_Test__data C_Test__parts D_Test____eq__
  have C__law_are : FnAt P w K mg base (Gk.DW K mg) 87 "_law_are" ["_law_tests", "_law_forms"] Gk.m__law_are := Gk.ok__law_are B C__law_make C_Test____eq__ D__law_are
  have C__law_inner : FnAt P w K mg base (Gk.DW K mg) 1 "_law_inner" ["_law_form_here"] Gk.m__law_inner := Gk.ok__law_inner B D__law_inner
  have C__law_atoms : FnAt P w K mg base (Gk.DW K mg) 40 "_law_atoms" ["_law_form_here"] (Gk.m__law_atoms 40) := Gk.ok__law_atoms B D__law_atoms
  have C__law_conjuncts : FnAt P w K mg base (Gk.DW K mg) 40 "_law_conjuncts" ["_law_form_here"] (Gk.m__law_conjuncts 40) := Gk.ok__law_conjuncts B D__law_conjuncts
  have C_conjuncts : FnAt P w K mg base (Gk.DW K mg) 41 "conjuncts" ["test"] (Gk.m_conjuncts 40) := Gk.ok_conjuncts B C_Test__kind C_Test__parts D_conjuncts
  have C__law_is_integer : FnAt P w K mg base (Gk.DW K mg) 1 "_law_is_integer" ["_law_thing"] Gk.m__law_is_integer := Gk.ok__law_is_integer B D__law_is_integer
  have C__law_levels : FnAt P w K mg base (Gk.DW K mg) 40 "_law_levels" ["_law_form_here"] (Gk.m__law_levels 40) := Gk.ok__law_levels B D__law_levels
  have C_columns_of : FnAt P w K mg base (Gk.DW K mg) 2 "columns_of" ["atom"] Gk.m_columns_of := Gk.ok_columns_of B C_Test__data C_Test__kind D_columns_of
  have C_sorted_plain : FnAt P w K mg base (Gk.DW K mg) 1 "sorted_plain" ["items"] Gk.m_sorted_plain := Gk.ok_sorted_plain B D_sorted_plain
  have C_Test__names : MtAt P w K mg base (Gk.DW K mg) 41 "names" 3 Gk.m_Test__names := Gk.ok_Test__names B C_Test__atoms C_columns_of C_sorted_plain D_Test__names
  have C__law_atom_names : FnAt P w K mg base (Gk.DW K mg) 1 "_law_atom_names" ["_law_atom_here"] Gk.m__law_atom_names := Gk.ok__law_atom_names B D__law_atom_names
  have C__law_names : FnAt P w K mg base (Gk.DW K mg) 41 "_law_names" ["_law_form_here"] Gk.m__law_names := Gk.ok__law_names B C__law_atoms C__law_atom_names D__law_names
  have C__law_agrees : FnAt P w K mg base (Gk.DW K mg) 127 "_law_agrees" ["_law_test", "_law_form_here"] (Gk.m__law_agrees 40) := Gk.ok__law_agrees B C_Test__kind C__law_are C__law_inner C_Test__parts C__law_atoms C_Test__atoms C__law_conjuncts C_conjuncts C__law_is_integer C_Test__levels C__law_levels C_Test__names C__law_names D__law_agrees
  have C_law : FnAt P w K mg base (Gk.DW K mg) 129 "law" ["_law_script"] Gk.m_law := Gk.ok_law B C__law_begin C__law_columns C__law_form C__law_make C__law_agrees C_Test__parts C_Test____eq__ C_Test____and__ C_Test____or__ C_Test____invert__ C_sure D_law
  exact C_law
end
open PySem PySem.W PyProof.Rows
set_option maxRecDepth 100000 in
set_option maxHeartbeats 0 in
theorem PySem.Challenge.cw_tworows_k07_parts_of_a_test_holds : PySem.Challenge.rw_tworows_k07_parts_of_a_test.Holds := by
  w_on; o_law; k_head; (case hw => w_witness2)
  k_fill
  refine L2.walk_ofB (l := PySem.Challenge.rw_tworows_k07_parts_of_a_test) (n := 63) (k := 129) (x := "_law_script") (CX := fun w => L2.CX PySem.Challenge.rw_tworows_k07_parts_of_a_test.prog w) (sp := fun w => TR.SpL _ Gk.m_law) rfl (by decide) rfl ⟨rfl, by decide, by decide⟩ (fun w h Y => PySem.W.kIn_of Y) ?F (fun w H a ns hl hb hO hS => ⟨a, ns, rfl, hS, Gk.law_true ns hl hb, fun _ => rfl⟩) (fun w H s e s2 z => TR.cx_no z)
  case F =>
    intro w mg fa h KX G hmg
    refine' Gk.all_mk KX G hmg ?ca3 ?pg3 ?hd3 ?po3 ?sa3 ?ha3 ?hm3 ?kt3_bool ?kt3_int ?kt3_str ?kt3_list ?kt3_tuple ?kt3_dict ?hn0 ?ht0 ?nf3__data ?nf3__kind ?nf3__parts ?ca24 ?xa24 ?xb24 ?xc24 ?xd24 ?xe24 ?xf24 ?xg24 ?xn24_why ?kb3_NoneType ?kb3_bool ?kb3_int ?kb3_str ?kb3_list ?kb3_tuple ?kb3_dict ?kc3_3 ?sf3 ?a0 ?l0 ?c0 ?k0 ?a1 ?l1 ?c1 ?k1 ?a2 ?l2 ?c2 ?k2 ?a3 ?l3 ?c3 ?k3 ?a4 ?l4 ?c4 ?k4 ?a5 ?l5 ?c5 ?k5 ?a6 ?l6 ?c6 ?k6 ?a7 ?l7 ?c7 ?k7 ?a8 ?l8 ?c8 ?k8 ?a9 ?l9 ?c9 ?k9 ?a10 ?l10 ?c10 ?k10 ?a11 ?l11 ?c11 ?k11 ?e11 ?a12 ?l12 ?c12 ?k12 ?e12 ?a13 ?l13 ?c13 ?k13 ?e13 ?a14 ?l14 ?c14 ?k14 ?a15 ?l15 ?c15 ?k15 ?e15 ?mk3 ?kp3 ?a16 ?l16 ?c16 ?k16 ?a17 ?l17 ?c17 ?k17 ?e17 ?a18 ?l18 ?c18 ?k18 ?e18 ?a19 ?l19 ?c19 ?k19 ?e19 ?a20 ?l20 ?c20 ?k20 ?a21 ?l21 ?c21 ?k21 ?a22 ?l22 ?c22 ?k22 ?a23 ?l23 ?c23 ?k23 ?a24 ?l24 ?c24 ?k24 ?a25 ?l25 ?c25 ?k25 ?a26 ?l26 ?c26 ?k26 ?a27 ?l27 ?c27 ?k27 ?a28 ?l28 ?c28 ?k28 ?a29 ?l29 ?c29 ?k29 ?a30 ?l30 ?c30 ?k30 ?a31 ?l31 ?c31 ?k31 ?a32 ?l32 ?c32 ?k32 ?a33 ?l33 ?c33 ?k33 ?a34 ?l34 ?c34 ?k34 ?a35 ?l35 ?c35 ?k35 ?e35 ?a36 ?l36 ?c36 ?k36 ?e36 ?a37 ?l37 ?c37 ?k37 ?e37 ?a38 ?l38 ?c38 ?k38 ?e38 ?a39 ?l39 ?c39 ?k39 ?a40 ?l40 ?c40 ?k40 ?a41 ?l41 ?c41 ?k41 ?a42 ?l42 ?c42 ?k42 ?a43 ?l43 ?c43 ?k43 ?a44 ?l44 ?c44 ?k44 ?a45 ?l45 ?c45 ?k45 ?a46 ?l46 ?c46 ?k46 ?a47 ?l47 ?c47 ?k47 ?a48 ?l48 ?c48 ?k48 ?e48 ?a49 ?l49 ?c49 ?k49 ?a50 ?l50 ?c50 ?k50 ?a51 ?l51 ?c51 ?k51 ?a52 ?l52 ?c52 ?k52 ?kd33_0 ?z0 ?z1 ?z2 ?z3 ?z4 ?z5 ?z6 ?z7 ?z8 ?z9 ?cn0 ?cn1 ?w3 ?cn2 ?cn3 ?cn4 ?cn5 ?w17 ?cn6
    (case ca3 => k_is); (case ca24 => k_is); (case pg3 => k_is); (case hd3 => k_is); (case po3 => k_is); (case sa3 => k_is); (case ha3 => k_is); (case hm3 => k_is); (case kt3_bool => kit_is); (case kt3_int => kit_is); (case kt3_str => kit_is); (case kt3_list => kit_is); (case kt3_tuple => kit_is); (case kt3_dict => kit_is); (case hn0 => k_is); (case ht0 => k_is); (case nf3__data => k_is); (case nf3__kind => k_is); (case nf3__parts => k_is); (case xa24 => (first | k_is | kx_is)); (case xb24 => (first | k_is | kx_is)); (case xc24 => k_is); (case xd24 => k_is); (case xe24 => k_is); (case xf24 => k_is); (case xg24 => k_is); (case xn24_why => k_is); (case kb3_NoneType => kit_is); (case kb3_bool => kit_is); (case kb3_int => kit_is); (case kb3_str => kit_is); (case kb3_list => kit_is); (case kb3_tuple => kit_is); (case kb3_dict => kit_is); (case kc3_3 => kit_is); (case sf3 => k_is); (case a0 => k_is); (case l0 => k_is); (case c0 => k_is); (case k0 => k_is); (case a1 => k_is); (case l1 => k_is); (case c1 => k_is); (case k1 => k_is); (case a2 => k_is); (case l2 => k_is); (case c2 => k_is); (case k2 => k_is); (case a3 => k_is); (case l3 => k_is); (case c3 => k_is); (case k3 => k_is); (case a4 => k_is); (case l4 => k_is); (case c4 => k_is); (case k4 => k_is); (case a5 => k_is); (case l5 => k_is); (case c5 => k_is); (case k5 => k_is); (case a6 => k_is); (case l6 => k_is); (case c6 => k_is); (case k6 => k_is); (case a7 => k_is); (case l7 => k_is); (case c7 => k_is); (case k7 => k_is); (case a8 => k_is); (case l8 => k_is); (case c8 => k_is); (case k8 => k_is); (case a9 => k_is); (case l9 => k_is); (case c9 => k_is); (case k9 => k_is); (case a10 => k_is); (case l10 => k_is); (case c10 => k_is); (case k10 => k_is); (case a11 => k_is); (case l11 => k_is); (case c11 => k_is); (case k11 => k_is); (case e11 => k_is); (case a12 => k_is); (case l12 => k_is); (case c12 => k_is); (case k12 => k_is); (case e12 => k_is); (case a13 => k_is); (case l13 => k_is); (case c13 => k_is); (case k13 => k_is); (case e13 => k_is); (case a14 => k_is); (case l14 => k_is); (case c14 => k_is); (case k14 => k_is); (case a15 => k_is); (case l15 => k_is); (case c15 => k_is); (case k15 => k_is); (case e15 => k_is); (case mk3 => k_is); (case kp3 => k_is); (case a16 => k_is); (case l16 => k_is); (case c16 => k_is); (case k16 => k_is); (case a17 => k_is); (case l17 => k_is); (case c17 => k_is); (case k17 => k_is); (case e17 => k_is); (case a18 => k_is); (case l18 => k_is); (case c18 => k_is); (case k18 => k_is); (case e18 => k_is); (case a19 => k_is); (case l19 => k_is); (case c19 => k_is); (case k19 => k_is); (case e19 => k_is); (case a20 => k_is); (case l20 => k_is); (case c20 => k_is); (case k20 => k_is); (case a21 => k_is); (case l21 => k_is); (case c21 => k_is); (case k21 => k_is); (case a22 => k_is); (case l22 => k_is); (case c22 => k_is); (case k22 => k_is); (case a23 => k_is); (case l23 => k_is); (case c23 => k_is); (case k23 => k_is); (case a24 => k_is); (case l24 => k_is); (case c24 => k_is); (case k24 => k_is); (case a25 => k_is); (case l25 => k_is); (case c25 => k_is); (case k25 => k_is); (case a26 => k_is); (case l26 => k_is); (case c26 => k_is); (case k26 => k_is); (case a27 => k_is); (case l27 => k_is); (case c27 => k_is); (case k27 => k_is); (case a28 => k_is); (case l28 => k_is); (case c28 => k_is); (case k28 => k_is); (case a29 => k_is); (case l29 => k_is); (case c29 => k_is); (case k29 => k_is); (case a30 => k_is); (case l30 => k_is); (case c30 => k_is); (case k30 => k_is); (case a31 => k_is); (case l31 => k_is); (case c31 => k_is); (case k31 => k_is); (case a32 => k_is); (case l32 => k_is); (case c32 => k_is); (case k32 => k_is); (case a33 => k_is); (case l33 => k_is); (case c33 => k_is); (case k33 => k_is); (case a34 => k_is); (case l34 => k_is); (case c34 => k_is); (case k34 => k_is); (case a35 => k_is); (case l35 => k_is); (case c35 => k_is); (case k35 => k_is); (case e35 => k_is); (case a36 => k_is); (case l36 => k_is); (case c36 => k_is); (case k36 => k_is); (case e36 => k_is); (case a37 => k_is); (case l37 => k_is); (case c37 => k_is); (case k37 => k_is); (case e37 => k_is); (case a38 => k_is); (case l38 => k_is); (case c38 => k_is); (case k38 => k_is); (case e38 => k_is); (case a39 => k_is); (case l39 => k_is); (case c39 => k_is); (case k39 => k_is); (case a40 => k_is); (case l40 => k_is); (case c40 => k_is); (case k40 => k_is); (case a41 => k_is); (case l41 => k_is); (case c41 => k_is); (case k41 => k_is); (case a42 => k_is); (case l42 => k_is); (case c42 => k_is); (case k42 => k_is); (case a43 => k_is); (case l43 => k_is); (case c43 => k_is); (case k43 => k_is); (case a44 => k_is); (case l44 => k_is); (case c44 => k_is); (case k44 => k_is); (case a45 => k_is); (case l45 => k_is); (case c45 => k_is); (case k45 => k_is); (case a46 => k_is); (case l46 => k_is); (case c46 => k_is); (case k46 => k_is); (case a47 => k_is); (case l47 => k_is); (case c47 => k_is); (case k47 => k_is); (case a48 => k_is); (case l48 => k_is); (case c48 => k_is); (case k48 => k_is); (case e48 => k_is); (case a49 => k_is); (case l49 => k_is); (case c49 => k_is); (case k49 => k_is); (case a50 => k_is); (case l50 => k_is); (case c50 => k_is); (case k50 => k_is); (case a51 => k_is); (case l51 => k_is); (case c51 => k_is); (case k51 => k_is); (case a52 => k_is); (case l52 => k_is); (case c52 => k_is); (case k52 => k_is); (case kd33_0 => k_is); (case z0 => k_is); (case z1 => k_is); (case z2 => k_is); (case z3 => k_is); (case z4 => k_is); (case z5 => k_is); (case z6 => k_is); (case z7 => k_is); (case z8 => k_is); (case z9 => k_is); (case cn0 => k_is); (case cn1 => k_is); (case cn2 => k_is); (case w3 => k_is); (case cn3 => k_is); (case cn4 => k_is); (case cn5 => k_is); (case cn6 => k_is); (case w17 => k_is)
