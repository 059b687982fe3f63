import PyProof.Rows.All
import Wide.All
import OpenK.AllK
import Wide.FinOn
import HandS.ForMost
import HandS.Exc
import HandS.WordsExc
import HandS.ExcInit
import HandS.Wide
import HandS.TupAny
import HandS.Style
import HandS.Deep
import HandS.IsInst
import HandS.Flow
import HandS.Records
import HandS.CallSlots
import HandS.ExcOwn
import HandS.Iter
import HandS.More
import HandS.Zip
import HandS.Rev
import HandS.Text
import HandS.EndBits
import HandS.Dict
import HandS.RaiseMore
import HandS.Replace
import KE.KOpsOwn
import HandS.MakeKwOnly
import KE.KExcInit
import HandS.ExcField
import HandS.TryOnly
import KE.KExcLine
import KE.GoesEnum
import HandS.DictComp
import HandS.OwnEq
import KE.KExcIs
import KE.KEqNest
import PySem.Challenge.RW_tworows_k12_columns_refused
set_option Elab.async false
set_option linter.all false
set_option maxRecDepth 100000
/-! TRA: pure data, slots, the relation between a frame's slots and pure data. -/
namespace TR
open PySem PySem.Spec L2
set_option autoImplicit false

/-- pure data -/
inductive PV where
  | non | bl (b : Bool) | int (i : Int) | str (s : Str)
  | lst (xs : List PV) | tup (xs : List PV) | dct (kvs : List (Key × PV)) | obj (c : Nat) (fs : List (Str × PV))

/-- what a world of a law gives: the written part, the classes by number -/
structure Wd where
  K : PySem.W.Frag
  T : Nat → Addr → Prop
  E : Nat → Addr → Prop
  /-- the exception in hand: its object, class, dict -/
  xa : Option (Addr × Value × Option Addr)
/-- an own exception: its class by number, its fields -/
structure Ex where
  c : Nat
  fs : List (Str × PV)

mutual
def Rep (D : Wd) (G : Hp) : PV → V → Prop
  | .non, v => v = .non
  | .bl b, v => v = .bl b
  | .int i, v => v = .int i
  | .str i, v => v = .str i
  | .lst xs, v => ∃ a vs, v = .ref a ∧ SqL D.K G a vs ∧ Reps D G xs vs
  | .tup xs, v => ∃ a vs, v = .ref a ∧ SqT D.K G a vs ∧ Reps D G xs vs
  | .dct kvs, v => ∃ a ws, v = .ref a ∧ Rd G a (.dK ws) ∧ RepD D G kvs ws
  | .obj c fs, v => ∃ a C dx ws, v = .ref a ∧ G a = some (.ins C dx ws) ∧ D.T c C ∧ RepF D G fs ws
def Reps (D : Wd) (G : Hp) : List PV → List V → Prop
  | [], vs => vs = []
  | x :: xs, vs => ∃ v r, vs = v :: r ∧ Rep D G x v ∧ Reps D G xs r
def RepD (D : Wd) (G : Hp) : List (Key × PV) → List (Key × V) → Prop
  | [], vs => vs = []
  | (k, x) :: xs, vs => ∃ v r, vs = (k, v) :: r ∧ Rep D G x v ∧ RepD D G xs r
def RepF (D : Wd) (G : Hp) : List (Str × PV) → List (Str × V) → Prop
  | [], vs => vs = []
  | (k, x) :: xs, vs => ∃ v r, vs = (k, v) :: r ∧ Rep D G x v ∧ RepF D G xs r
end

/-- the heap grows: what is to be read stays so -/
def LeG (G G' : Hp) : Prop := ∀ a u, G a = some u → G' a = some u
theorem LeG.rd {G G' : Hp} (h : LeG G G') {a : Addr} {u : HO} (x : Rd G a u) : Rd G' a u := by
  rcases x with x | ⟨o, x⟩
  · exact .inl (h _ _ x)
  · exact .inr ⟨o, h _ _ x⟩
theorem LeG.refl (G : Hp) : LeG G G := fun _ _ h => h
theorem LeG.trans {A B C : Hp} (h : LeG A B) (k : LeG B C) : LeG A C := fun a u x => k a u (h a u x)
theorem LeG.of_same {G G' : Hp} (h : ∀ a u, G a = some u → G' a = some u) : LeG G G' := h
theorem sqL_mono {K : PySem.W.Frag} {G G' : Hp} {a : Addr} {vs : List V} (l : LeG G G') (h : SqL K G a vs) : SqL K G' a vs := by
  rcases h with h | h
  · exact .inl (l.rd h)
  · exact .inr h
theorem sqT_mono {K : PySem.W.Frag} {G G' : Hp} {a : Addr} {vs : List V} (l : LeG G G') (h : SqT K G a vs) : SqT K G' a vs := by
  rcases h with h | h
  · exact .inl (l.rd h)
  · exact .inr h

mutual
theorem Rep.mono {D : Wd} {G G' : Hp} (l : LeG G G') : ∀ {x : PV} {v : V}, Rep D G x v → Rep D G' x v
  | .non, _, h => h
  | .bl _, _, h => h
  | .int _, _, h => h
  | .str _, _, h => h
  | .lst xs, _, h => by
    obtain ⟨a, vs, e, q, r⟩ := h
    exact ⟨a, vs, e, sqL_mono l q, Reps.mono l r⟩
  | .tup xs, _, h => by
    obtain ⟨a, vs, e, q, r⟩ := h
    exact ⟨a, vs, e, sqT_mono l q, Reps.mono l r⟩
  | .dct xs, _, h => by
    obtain ⟨a, vs, e, q, r⟩ := h
    exact ⟨a, vs, e, l.rd q, RepD.mono l r⟩
  | .obj c xs, _, h => by
    obtain ⟨a, C, dx, vs, e, q, t, r⟩ := h
    exact ⟨a, C, dx, vs, e, l _ _ q, t, RepF.mono l r⟩
theorem Reps.mono {D : Wd} {G G' : Hp} (l : LeG G G') : ∀ {xs : List PV} {vs : List V}, Reps D G xs vs → Reps D G' xs vs
  | [], _, h => h
  | x :: xs, _, h => by
    obtain ⟨v, r, e, h1, h2⟩ := h
    exact ⟨v, r, e, Rep.mono l h1, Reps.mono l h2⟩
theorem RepD.mono {D : Wd} {G G' : Hp} (l : LeG G G') : ∀ {xs : List (Key × PV)} {vs : List (Key × V)}, RepD D G xs vs → RepD D G' xs vs
  | [], _, h => h
  | (k, x) :: xs, _, h => by
    obtain ⟨v, r, e, h1, h2⟩ := h
    exact ⟨v, r, e, Rep.mono l h1, RepD.mono l h2⟩
theorem RepF.mono {D : Wd} {G G' : Hp} (l : LeG G G') : ∀ {xs : List (Str × PV)} {vs : List (Str × V)}, RepF D G xs vs → RepF D G' xs vs
  | [], _, h => h
  | (k, x) :: xs, _, h => by
    obtain ⟨v, r, e, h1, h2⟩ := h
    exact ⟨v, r, e, Rep.mono l h1, RepF.mono l h2⟩
end

theorem Reps.length {D : Wd} {G : Hp} : ∀ {xs : List PV} {vs : List V}, Reps D G xs vs → vs.length = xs.length
  | [], _, h => by rw [show _ = [] from h]; rfl
  | x :: xs, _, h => by
    obtain ⟨v, r, rfl, h1, h2⟩ := h
    simp [Reps.length h2]
theorem Reps.get {D : Wd} {G : Hp} : ∀ {xs : List PV} {vs : List V} {i : Nat} {x : PV}, Reps D G xs vs → xs[i]? = some x → ∃ v, vs[i]? = some v ∧ Rep D G x v
  | [], _, i, x, h, e => by simp at e
  | y :: ys, _, 0, x, h, e => by
    obtain ⟨v, r, rfl, h1, h2⟩ := h
    simp at e; subst e
    exact ⟨v, rfl, h1⟩
  | y :: ys, _, i + 1, x, h, e => by
    obtain ⟨v, r, rfl, h1, h2⟩ := h
    simp at e
    obtain ⟨w, e1, e2⟩ := Reps.get h2 e
    exact ⟨w, by simpa using e1, e2⟩
theorem Reps.append {D : Wd} {G : Hp} : ∀ {xs ys : List PV} {vs ws : List V}, Reps D G xs vs → Reps D G ys ws → Reps D G (xs ++ ys) (vs ++ ws)
  | [], _, _, _, h, k => by rw [show _ = [] from h]; exact k
  | x :: xs, ys, _, ws, h, k => by
    obtain ⟨v, r, rfl, h1, h2⟩ := h
    exact ⟨v, r ++ ws, rfl, h1, Reps.append h2 k⟩
theorem Reps.one {D : Wd} {G : Hp} {x : PV} {v : V} (h : Rep D G x v) : Reps D G [x] [v] := ⟨v, [], rfl, h, rfl⟩
theorem Reps.take {D : Wd} {G : Hp} : ∀ {xs : List PV} {vs : List V} (n : Nat), Reps D G xs vs → Reps D G (xs.take n) (vs.take n)
  | [], _, n, h => by rw [show _ = [] from h]; simp [Reps]
  | x :: xs, _, 0, h => by simp [Reps]
  | x :: xs, _, n + 1, h => by
    obtain ⟨v, r, rfl, h1, h2⟩ := h
    exact ⟨v, r.take n, rfl, h1, Reps.take n h2⟩
theorem Reps.drop {D : Wd} {G : Hp} : ∀ {xs : List PV} {vs : List V} (n : Nat), Reps D G xs vs → Reps D G (xs.drop n) (vs.drop n)
  | [], _, n, h => by rw [show _ = [] from h]; simp [Reps]
  | x :: xs, _, 0, h => h
  | x :: xs, _, n + 1, h => by
    obtain ⟨v, r, rfl, h1, h2⟩ := h
    exact Reps.drop n h2
theorem Reps.set {D : Wd} {G : Hp} : ∀ {xs : List PV} {vs : List V} (n : Nat) {y : PV} {w : V}, Reps D G xs vs → Rep D G y w → Reps D G (xs.set n y) (vs.set n w)
  | [], _, n, _, _, h, k => by rw [show _ = [] from h]; simp [Reps]
  | x :: xs, _, 0, _, _, h, k => by
    obtain ⟨v, r, rfl, h1, h2⟩ := h
    exact ⟨_, r, rfl, k, h2⟩
  | x :: xs, _, n + 1, _, _, h, k => by
    obtain ⟨v, r, rfl, h1, h2⟩ := h
    exact ⟨v, _, rfl, h1, Reps.set n h2 k⟩
theorem Reps.get_none {D : Wd} {G : Hp} {xs : List PV} {vs : List V} {i : Nat} (h : Reps D G xs vs) (e : xs[i]? = none) : vs[i]? = none := by
  have := h.length
  rw [List.getElem?_eq_none_iff] at e ⊢
  omega
theorem RepD.length {D : Wd} {G : Hp} : ∀ {xs : List (Key × PV)} {vs : List (Key × V)}, RepD D G xs vs → vs.length = xs.length
  | [], _, h => by rw [show _ = [] from h]; rfl
  | (k, x) :: xs, _, h => by
    obtain ⟨v, r, rfl, h1, h2⟩ := h
    simp [RepD.length h2]

def ERep (D : Wd) (G : Hp) (c : Value) (d : Option Addr) (e : Ex) : Prop := ∃ C dx ws, c = .ref C ∧ D.E e.c C ∧ d = some dx ∧ G dx = some (.xd ws) ∧ RepF D G e.fs ws
theorem ERep.mono {D : Wd} {G G' : Hp} (l : LeG G G') {c : Value} {d : Option Addr} {e : Ex} (h : ERep D G c d e) : ERep D G' c d e := by
  obtain ⟨C, dx, ws, h1, h2, h3, h4, h5⟩ := h
  exact ⟨C, dx, ws, h1, h2, h3, l _ _ h4, h5.mono l⟩
/-- a list or dict that the frame may change -/
inductive MO where
  | lst (xs : List PV) | dct (kvs : List (Key × PV)) | obj (c : Nat) (fs : List (Str × PV))
def MO.pv : MO → PV
  | .lst xs => .lst xs
  | .dct kvs => .dct kvs
  | .obj c fs => .obj c fs
/-- a slot: nothing known, a value, or an own object (b: it is the caller's) -/
inductive Slot where
  | non | val (x : PV) | own (b : Bool) (o : MO) | exn (e : Ex)
abbrev Ev := List Slot

def MRep (D : Wd) (G H : Hp) (a : Addr) : MO → Prop
  | .lst xs => ∃ vs, H a = some (.lst vs) ∧ Reps D G xs vs
  | .dct kvs => ∃ ws, H a = some (.dK ws) ∧ RepD D G kvs ws
  | .obj c fs => ∃ C dx ws, H a = some (.ins C dx ws) ∧ D.T c C ∧ RepF D G fs ws
theorem MRep.some {D : Wd} {G H : Hp} {a : Addr} {m : MO} (h : MRep D G H a m) : ∃ o, H a = some o := by
  cases m with
  | lst xs => obtain ⟨vs, e, _⟩ := h; exact ⟨_, e⟩
  | dct xs => obtain ⟨vs, e, _⟩ := h; exact ⟨_, e⟩
  | obj c xs => obtain ⟨_, _, vs, e, _⟩ := h; exact ⟨_, e⟩
theorem MRep.mono {D : Wd} {G H G' H' : Hp} {a : Addr} {m : MO} (l : LeG G G') (e : H' a = H a) (h : MRep D G H a m) : MRep D G' H' a m := by
  cases m with
  | lst xs => obtain ⟨vs, e1, r⟩ := h; exact ⟨vs, e.trans e1, r.mono l⟩
  | dct xs => obtain ⟨vs, e1, r⟩ := h; exact ⟨vs, e.trans e1, r.mono l⟩
  | obj c xs => obtain ⟨C, dx, vs, e1, t, r⟩ := h; exact ⟨C, dx, vs, e.trans e1, t, r.mono l⟩

def SOk (D : Wd) (G H : Hp) (o : Option (Option V)) : Slot → Prop
  | .non => True
  | .val x => ∃ v, o = some (some v) ∧ Rep D G x v
  | .own b m => ∃ a, o = some (some (.ref a)) ∧ G a = none ∧ MRep D G H a m
  | .exn e => ∃ a c d, D.xa = some (a, c, d) ∧ o = some (some (.ref a)) ∧ ERep D G c d e

def Ow (σ : St) (ρ : Ev) (a : Addr) : Prop := ∃ (i : Nat) (b : Bool) (m : MO), ρ[i]? = some (.own b m) ∧ σ[i]? = some (some (.ref a))
def OwF (σ : St) (ρ : Ev) (a : Addr) : Prop := ∃ (i : Nat) (m : MO), ρ[i]? = some (.own false m) ∧ σ[i]? = some (some (.ref a))
theorem OwF.ow {σ : St} {ρ : Ev} {a : Addr} (h : OwF σ ρ a) : Ow σ ρ a := let ⟨i, m, e, f⟩ := h; ⟨i, false, m, e, f⟩

structure Abs (D : Wd) (G H : Hp) (σ : St) (ρ : Ev) : Prop where
  le : LeG G H
  len : σ.length = ρ.length
  sl : ∀ (i : Nat) (s : Slot), ρ[i]? = some s → SOk D G H σ[i]? s
  inj : ∀ (i j : Nat) (b : Bool) (m : MO) (b' : Bool) (m' : MO) (a : Addr), ρ[i]? = some (.own b m) → ρ[j]? = some (.own b' m') → σ[i]? = some (some (.ref a)) → σ[j]? = some (some (.ref a)) → i = j

theorem Abs.own {D : Wd} {G H : Hp} {σ : St} {ρ : Ev} (A : Abs D G H σ ρ) {i : Nat} {b : Bool} {m : MO} (e : ρ[i]? = some (.own b m)) : ∃ a, σ[i]? = some (some (.ref a)) ∧ G a = none ∧ MRep D G H a m := A.sl i _ e
theorem Abs.val {D : Wd} {G H : Hp} {σ : St} {ρ : Ev} (A : Abs D G H σ ρ) {i : Nat} {x : PV} (e : ρ[i]? = some (.val x)) : ∃ v, σ[i]? = some (some v) ∧ Rep D G x v := A.sl i _ e
theorem Abs.ow_some {D : Wd} {G H : Hp} {σ : St} {ρ : Ev} (A : Abs D G H σ ρ) {a : Addr} (h : Ow σ ρ a) : (∃ o, H a = some o) ∧ G a = none := by
  obtain ⟨i, b, m, e, f⟩ := h
  obtain ⟨a', e', g, r⟩ := A.own e
  rw [f] at e'
  cases e'
  exact ⟨r.some, g⟩

/-- from a state to a later one -/
structure Nx (D : Wd) (G H : Hp) (σ : St) (ρ : Ev) (G' H' : Hp) (σ' : St) (ρ' : Ev) : Prop where
  abs : Abs D G' H' σ' ρ'
  g : ∀ a u, G a = some u → G' a = some u
  k : ∀ a o, H a = some o → ¬ Ow σ ρ a → H' a = some o
  d : ∀ a, H' a = none → H a = none
  f : ∀ a u, G' a = some u → G a = some u ∨ H a = none ∨ OwF σ ρ a
  w : ∀ a, Ow σ' ρ' a → Ow σ ρ a ∨ H a = none
  br : ∀ (i : Nat) (m : MO), ρ[i]? = some (.own true m) → (∃ m', ρ'[i]? = some (.own true m')) ∧ σ'[i]? = σ[i]?
  nb : ∀ (i : Nat) (m : MO), ρ'[i]? = some (.own true m) → ∃ m', ρ[i]? = some (.own true m')
section
variable {D : Wd} {G H G1 H1 G2 H2 : Hp} {σ σ1 σ2 : St} {ρ ρ1 ρ2 : Ev}
theorem Nx.refl (A : Abs D G H σ ρ) : Nx D G H σ ρ G H σ ρ :=
  ⟨A, fun _ _ h => h, fun _ _ h _ => h, fun _ h => h, fun _ _ h => .inl h, fun _ h => .inl h, fun _ m h => ⟨⟨m, h⟩, rfl⟩, fun _ m h => ⟨m, h⟩⟩
theorem Nx.leg (n : Nx D G H σ ρ G1 H1 σ1 ρ1) : LeG G G1 := LeG.of_same n.g
theorem Nx.trans (n : Nx D G H σ ρ G1 H1 σ1 ρ1) (k : Nx D G1 H1 σ1 ρ1 G2 H2 σ2 ρ2) : Nx D G H σ ρ G2 H2 σ2 ρ2 where
  abs := k.abs
  g := fun a u h => k.g a u (n.g a u h)
  k := fun a o h no => k.k a o (n.k a o h no) fun w => by
    rcases n.w a w with w | w
    · exact no w
    · rw [h] at w; cases w
  d := fun a h => n.d a (k.d a h)
  f := fun a u h => by
    rcases k.f a u h with h | h | h
    · exact n.f a u h
    · exact .inr (.inl (n.d a h))
    · rcases n.w a h.ow with w | w
      · obtain ⟨i, b, m, e, f⟩ := w
        cases b with
        | false => exact .inr (.inr ⟨i, m, e, f⟩)
        | true =>
          obtain ⟨⟨m', e'⟩, f'⟩ := n.br i m e
          obtain ⟨j, mj, ej, fj⟩ := h
          have ij := n.abs.inj i j _ _ _ _ a e' ej (f'.trans f) fj
          subst ij
          rw [e'] at ej; cases ej
      · exact .inr (.inl w)
  w := fun a h => by
    rcases k.w a h with h | h
    · exact n.w a h
    · exact .inr (n.d a h)
  br := fun i m h => by
    obtain ⟨⟨m', e⟩, f⟩ := n.br i m h
    obtain ⟨q, f2⟩ := k.br i m' e
    exact ⟨q, f2.trans f⟩
  nb := fun i m h => by
    obtain ⟨m', e⟩ := k.nb i m h
    exact n.nb i m' e
/-- the heap and the frozen part grow, no slot is changed -/
structure Grow (G H G' H' : Hp) : Prop where
  le : LeG G' H'
  g : ∀ a u, G a = some u → G' a = some u
  k : ∀ a o, H a = some o → H' a = some o
  f : ∀ a u, G' a = some u → G a = some u ∨ H a = none
theorem Grow.leg (n : Grow G H G1 H1) : LeG G G1 := LeG.of_same n.g
theorem Grow.refl (l : LeG G H) : Grow G H G H := ⟨l, fun _ _ h => h, fun _ _ h => h, fun _ _ h => .inl h⟩
theorem Grow.trans (n : Grow G H G1 H1) (k : Grow G1 H1 G2 H2) : Grow G H G2 H2 :=
  ⟨k.le, fun a u h => k.g a u (n.g a u h), fun a o h => k.k a o (n.k a o h), fun a u h => by
    rcases k.f a u h with h | h
    · exact n.f a u h
    · refine .inr ?_
      cases q : H a with
      | none => rfl
      | some o => rw [n.k a o q] at h; cases h⟩
theorem Abs.grow (A : Abs D G H σ ρ) (n : Grow G H G1 H1) : Nx D G H σ ρ G1 H1 σ ρ where
  abs := by
    refine ⟨n.le, A.len, fun i s e => ?_, A.inj⟩
    have q := A.sl i s e
    cases s with
    | non => trivial
    | val x => obtain ⟨v, e1, r⟩ := q; exact ⟨v, e1, r.mono n.leg⟩
    | exn x => obtain ⟨a, c, d, e1, e2, r⟩ := q; exact ⟨a, c, d, e1, e2, r.mono n.leg⟩
    | own b m =>
      obtain ⟨a, e1, ga, r⟩ := q
      obtain ⟨o, ho⟩ := r.some
      refine ⟨a, e1, ?_, r.mono n.leg ((n.k a o ho).trans ho.symm)⟩
      cases q : G1 a with
      | none => rfl
      | some u =>
        rcases n.f a u q with z | z
        · rw [ga] at z; cases z
        · rw [ho] at z; cases z
  g := n.g
  k := fun a o h _ => n.k a o h
  d := fun a h => by
    cases q : H a with
    | none => rfl
    | some o => rw [n.k a o q] at h; cases h
  f := fun a u h => by
    rcases n.f a u h with z | z
    · exact .inl z
    · exact .inr (.inl z)
  w := fun a h => .inl h
  br := fun i m h => ⟨⟨m, h⟩, rfl⟩
  nb := fun i m h => ⟨m, h⟩
/-- a new frozen object -/
theorem Grow.new {p : Addr} {o : HO} (l : LeG G H) (hp : H p = none) : Grow G H (upd G p o) (upd H p o) := by
  have gp : G p = none := by
    cases q : G p with
    | none => rfl
    | some u =>
      have z := l p u q
      rw [hp] at z; cases z
  refine ⟨fun a u h => ?_, fun a u h => ?_, fun a u h => ?_, fun a u h => ?_⟩
  · by_cases e : a = p
    · subst e
      rw [upd_same] at h; exact upd_same.trans h
    · rw [upd_ne e] at h
      exact (upd_ne e).trans (l a u h)
  · by_cases e : a = p
    · subst e; rw [gp] at h; cases h
    · exact (upd_ne e).trans h
  · by_cases e : a = p
    · subst e; rw [hp] at h; cases h
    · exact (upd_ne e).trans h
  · by_cases e : a = p
    · subst e; exact .inr hp
    · rw [upd_ne e] at h; exact .inl h
/-- a new object that is not frozen -/
theorem Grow.newH {p : Addr} {o : HO} (l : LeG G H) (hp : H p = none) : Grow G H G (upd H p o) := by
  refine ⟨fun a u h => ?_, fun a u h => h, fun a u h => ?_, fun a u h => .inl h⟩
  · have e : a ≠ p := fun e => by
      subst e
      have z := l a u h
      rw [hp] at z; cases z
    exact (upd_ne e).trans (l a u h)
  · by_cases e : a = p
    · subst e; rw [hp] at h; cases h
    · exact (upd_ne e).trans h
end
end TR

set_option Elab.async false
set_option linter.all false
set_option maxRecDepth 100000
/-! TRB: outcomes, readings of pure meaning, the judgements' composition. -/
namespace TR
open PySem PySem.Spec L2
set_option autoImplicit false

inductive Out (α : Type) where
  | ok (x : α) (ρ : Ev) | exc (e : Ex) (ρ : Ev) | stuck
def Out.bind {α β : Type} (o : Out α) (k : α → Ev → Out β) : Out β :=
  match o with
  | .ok x ρ => k x ρ
  | .exc e ρ => .exc e ρ
  | .stuck => .stuck
@[simp] theorem Out.bind_ok {α β : Type} (x : α) (ρ : Ev) (k : α → Ev → Out β) : (Out.ok x ρ).bind k = k x ρ := (rfl)
@[simp] theorem Out.bind_exc {α β : Type} (e : Ex) (ρ : Ev) (k : α → Ev → Out β) : (Out.exc e ρ : Out α).bind k = .exc e ρ := (rfl)
@[simp] theorem Out.bind_stuck {α β : Type} (k : α → Ev → Out β) : (Out.stuck : Out α).bind k = .stuck := (rfl)
abbrev EM (α : Type) := Ev → Out α
def lift {α : Type} (o : Option α) (ρ : Ev) : Out α :=
  match o with
  | some x => .ok x ρ
  | none => .stuck
@[simp] theorem lift_some {α : Type} (x : α) (ρ : Ev) : lift (some x) ρ = .ok x ρ := (rfl)
@[simp] theorem lift_none {α : Type} (ρ : Ev) : lift (none : Option α) ρ = .stuck := (rfl)

/-- what is wanted of an outcome from the state (G, H, σ, ρ) -/
def Kg {α : Type} (D : Wd) (W : WX) (o : Out α) (G H : Hp) (σ : St) (ρ : Ev) (P : α → Ev → Hp → Hp → Prop) : Prop :=
  match o with
  | .ok x ρ' => ∀ G' H', Nx D G H σ ρ G' H' σ ρ' → P x ρ' G' H'
  | .exc e ρ' => ∀ G' H' c d, Nx D G H σ ρ G' H' σ ρ' → ERep D G' c d e → W c d σ H'
  | .stuck => False
section
variable {D : Wd} {W : WX} {α β : Type} {G H G1 H1 : Hp} {σ : St} {ρ ρ1 : Ev}
theorem Kg.mono {o : Out α} {P P' : α → Ev → Hp → Hp → Prop} (h : Kg D W o G H σ ρ P) (i : ∀ x ρ' G' H', Nx D G H σ ρ G' H' σ ρ' → P x ρ' G' H' → P' x ρ' G' H') : Kg D W o G H σ ρ P' := by
  cases o with
  | ok x ρ' => exact fun G' H' n => i _ _ _ _ n (h G' H' n)
  | exc e ρ' => exact h
  | stuck => exact h
theorem Kg.bind {o : Out α} {k : α → Ev → Out β} {P : β → Ev → Hp → Hp → Prop} (h : Kg D W (o.bind k) G H σ ρ P) : Kg D W o G H σ ρ fun x ρ1 G1 H1 => Kg D W (k x ρ1) G1 H1 σ ρ1 P := by
  cases o with
  | ok x ρ1 =>
    intro G1 H1 n
    have h' : Kg D W (k x ρ1) G H σ ρ P := h
    revert h'
    cases k x ρ1 with
    | ok y ρ2 => exact fun h' G2 H2 n2 => h' G2 H2 (n.trans n2)
    | exc e ρ2 => exact fun h' G2 H2 c d n2 => h' G2 H2 c d (n.trans n2)
    | stuck => exact fun h' => h'
  | exc e ρ' => exact h
  | stuck => exact h
theorem Kg.lift {o : Option α} {P : α → Ev → Hp → Hp → Prop} (A : Abs D G H σ ρ) (h : Kg D W (lift o ρ) G H σ ρ P) : ∃ x, o = some x ∧ ∀ G' H', Grow G H G' H' → P x ρ G' H' := by
  cases o with
  | none => exact False.elim h
  | some x => exact ⟨x, rfl, fun G' H' g => h G' H' (A.grow g)⟩
end

/-- readings: of an expression (its value is frozen), of a peek, of a test -/
def tE (D : Wd) (W : WX) (m : EM PV) : TE := fun σ H Q => ∃ G ρ, Abs D G H σ ρ ∧ Kg D W (m ρ) G H σ ρ fun x ρ' G' H' => ∀ v, Rep D G' x v → Q v H'
/-- a value that may be an own list or dict at its top -/
def RepH (D : Wd) (G H : Hp) (x : PV) (v : V) : Prop := match x with
  | .lst xs => ∃ a vs, v = .ref a ∧ SqL D.K H a vs ∧ Reps D G xs vs
  | .dct kvs => ∃ a ws, v = .ref a ∧ Rd H a (.dK ws) ∧ RepD D G kvs ws
  | .obj c fs => ∃ a C dx ws, v = .ref a ∧ H a = some (.ins C dx ws) ∧ D.T c C ∧ RepF D G fs ws
  | x => Rep D G x v
theorem Rep.toH {D : Wd} {G H : Hp} {x : PV} {v : V} (l : LeG G H) (h : Rep D G x v) : RepH D G H x v := by
  cases x with
  | lst xs => obtain ⟨a, vs, e, q, r⟩ := h; exact ⟨a, vs, e, sqL_mono l q, r⟩
  | dct xs => obtain ⟨a, vs, e, q, r⟩ := h; exact ⟨a, vs, e, l.rd q, r⟩
  | obj c xs => obtain ⟨a, C, dx, vs, e, q, t, r⟩ := h; exact ⟨a, C, dx, vs, e, l _ _ q, t, r⟩
  | _ => exact h
def tP (D : Wd) (W : WX) (m : EM PV) : TE := fun σ H Q => ∃ G ρ, Abs D G H σ ρ ∧ Kg D W (m ρ) G H σ ρ fun x ρ' G' H' => ∀ v, RepH D G' H' x v → Q v H'
def tB (D : Wd) (W : WX) (m : EM Bool) : TT := fun σ H Q => ∃ G ρ, Abs D G H σ ρ ∧ Kg D W (m ρ) G H σ ρ fun x _ _ H' => Q x H'
abbrev RE (D : Wd) (W : WX) (X : Cx) (e : Expr) (m : EM PV) : Prop := PE X e (tE D W m)
abbrev RP (D : Wd) (W : WX) (X : Cx) (e : Expr) (m : EM PV) : Prop := PE X e (tP D W m)
abbrev RB (D : Wd) (W : WX) (X : Cx) (e : Expr) (m : EM Bool) : Prop := PT X e (tB D W m)
abbrev RW (D : Wd) (W : WX) (X : Cx) (e : Expr) (m : EM Bool) : Prop := PW X e (tB D W m)

theorem _root_.L2.PE.imp {X : Cx} {e : Expr} {t t' : TE} (h : PE X e t) (i : ∀ σ H Q, t' σ H Q → t σ H Q) : PE X e t' := ⟨fun pins s σ H Q I w => h.run pins s σ H Q I (i _ _ _ w)⟩
theorem _root_.L2.PT.imp {X : Cx} {e : Expr} {t t' : TT} (h : PT X e t) (i : ∀ σ H Q, t' σ H Q → t σ H Q) : PT X e t' := ⟨fun pins s σ H Q I w => h.run pins s σ H Q I (i _ _ _ w)⟩
theorem _root_.L2.PW.imp {X : Cx} {e : Expr} {t t' : TT} (h : PW X e t) (i : ∀ σ H Q, t' σ H Q → t σ H Q) : PW X e t' := ⟨fun wh pins s σ H Q I w => h.run wh pins s σ H Q I (i _ _ _ w)⟩
theorem _root_.L2.PA.imp {X : Cx} {es : List Expr} {t t' : TA} (h : PA X es t) (i : ∀ σ H Q, t' σ H Q → t σ H Q) : PA X es t' := ⟨fun pos pins s σ H Q I w => h.run pos pins s σ H Q I (i _ _ _ w)⟩
theorem _root_.L2.PS.imp {X : Cx} {st : Stmt} {t t' : TS} (h : PS X st t) (i : ∀ D σ H, t' D σ H → t D σ H) : PS X st t' := ⟨fun pins s σ H D I w => h.run pins s σ H D I (i _ _ _ w)⟩
theorem _root_.L2.PSs.imp {X : Cx} {st : List Stmt} {t t' : TS} (h : PSs X st t) (i : ∀ D σ H, t' D σ H → t D σ H) : PSs X st t' := ⟨fun pins s σ H D I w => h.run pins s σ H D I (i _ _ _ w)⟩

section
variable {D : Wd} {W : WX} {X : Cx} {e : Expr}
/-- a frozen value serves as a peek -/
theorem rp_of {m : EM PV} (h : RE D W X e m) : RP D W X e m := h.imp fun σ H Q ⟨G, ρ, A, k⟩ => ⟨G, ρ, A, k.mono fun _ _ _ _ n f v r => f v (r.toH n.abs.le)⟩

/-! ### names -/
def Slot.peek : Slot → Option PV
  | .val x => some x
  | .own _ m => some m.pv
  | .non => none
  | .exn _ => none
/-- what a slot holds, as it stands now -/
def peek (i : Nat) : EM PV := fun ρ => match ρ[i]? with
  | some s => lift s.peek ρ
  | none => .stuck
theorem peek_rep {G H : Hp} {σ : St} {ρ : Ev} {i : Nat} {x : PV} {s : Slot} (A : Abs D G H σ ρ) (e : ρ[i]? = some s) (p : s.peek = some x) : ∃ v, σ[i]? = some (some v) ∧ RepH D G H x v := by
  have q := A.sl i s e
  cases s with
  | non => cases p
  | exn y => cases p
  | val y =>
    cases p
    obtain ⟨v, e1, r⟩ := q
    exact ⟨v, e1, r.toH A.le⟩
  | own b m =>
    cases p
    obtain ⟨a, e1, _, r⟩ := q
    refine ⟨_, e1, ?_⟩
    cases m with
    | lst xs => obtain ⟨vs, h, r⟩ := r; exact ⟨a, vs, rfl, .inl (.inl h), r⟩
    | dct xs => obtain ⟨vs, h, r⟩ := r; exact ⟨a, vs, rfl, .inl h, r⟩
    | obj c xs => obtain ⟨C, dx, vs, h, t, r⟩ := r; exact ⟨a, C, dx, vs, rfl, h, t, r⟩
theorem peek_ok {G H : Hp} {σ : St} {ρ : Ev} {i : Nat} {P : PV → Ev → Hp → Hp → Prop} (A : Abs D G H σ ρ) (k : Kg D W (peek i ρ) G H σ ρ P) : ∃ x v, σ[i]? = some (some v) ∧ RepH D G H x v ∧ P x ρ G H := by
  unfold peek at k
  cases e : ρ[i]? with
  | none => rw [e] at k; exact False.elim k
  | some s =>
    rw [e] at k
    obtain ⟨x, p, f⟩ := Kg.lift A k
    obtain ⟨v, e1, r⟩ := peek_rep A e p
    exact ⟨x, v, e1, r, f G H (Grow.refl A.le)⟩
theorem rp_var (i : Nat) (h : PE X e (tVar i)) : RP D W X e (peek i) := h.imp fun σ H Q ⟨G, ρ, A, k⟩ => by
  obtain ⟨x, v, e1, r, f⟩ := peek_ok A k
  exact ⟨v, e1, f v r⟩
/-- a name whose slot holds a value -/
def getv (i : Nat) : EM PV := fun ρ => match ρ[i]? with
  | some (.val x) => .ok x ρ
  | some (.own false m) => .ok m.pv (ρ.set i (.val m.pv))
  | _ => .stuck
theorem Abs.freeze {G H : Hp} {σ : St} {ρ : Ev} {i : Nat} {m : MO} (A : Abs D G H σ ρ) (e : ρ[i]? = some (.own false m)) : ∃ a G', σ[i]? = some (some (.ref a)) ∧ Rep D G' m.pv (.ref a) ∧ Nx D G H σ ρ G' H σ (ρ.set i (.val m.pv)) := by
  obtain ⟨a, e1, ga, r⟩ := A.own e
  obtain ⟨o, ho⟩ := r.some
  have hi : i < ρ.length := (List.getElem?_eq_some_iff.mp e).1
  have gg : ∀ b u, G b = some u → upd G a o b = some u := fun b u h => by
    have : b ≠ a := fun z => by rw [z, ga] at h; cases h
    rw [upd_ne this]; exact h
  have lg : LeG G (upd G a o) := LeG.of_same gg
  have rp : Rep D (upd G a o) m.pv (.ref a) := by
    cases m with
    | lst xs =>
      obtain ⟨vs, h, r⟩ := r
      rw [ho] at h; cases h
      exact ⟨a, vs, rfl, .inl (.inl upd_same), r.mono lg⟩
    | dct xs =>
      obtain ⟨vs, h, r⟩ := r
      rw [ho] at h; cases h
      exact ⟨a, vs, rfl, .inl upd_same, r.mono lg⟩
    | obj c xs =>
      obtain ⟨C, dx, vs, h, t, r⟩ := r
      rw [ho] at h; cases h
      exact ⟨a, C, dx, vs, rfl, upd_same, t, r.mono lg⟩
  have le : LeG (upd G a o) H := fun b u h => by
    by_cases hb : b = a
    · subst hb
      rw [upd_same] at h; cases h; exact ho
    · rw [upd_ne hb] at h; exact A.le _ _ h
  have back : ∀ (j : Nat) (b : Bool) (m' : MO), (ρ.set i (.val m.pv))[j]? = some (.own b m') → j ≠ i ∧ ρ[j]? = some (.own b m') := fun j b m' h => by
    by_cases z : j = i
    · subst z
      rw [List.getElem?_set_self hi] at h; cases h
    · rw [List.getElem?_set_ne (Ne.symm z)] at h; exact ⟨z, h⟩
  refine ⟨a, upd G a o, e1, rp, ⟨⟨le, by rw [List.length_set]; exact A.len, fun j s h => ?_, fun j k b m1 b' m2 c h1 h2 h3 h4 => A.inj j k b m1 b' m2 c (back _ _ _ h1).2 (back _ _ _ h2).2 h3 h4⟩, gg, fun _ _ h _ => h, fun _ h => h, fun b u h => ?_, fun b h => ?_, fun j m' h => ?_, fun j m' h => ?_⟩⟩
  · by_cases z : j = i
    · subst z
      rw [List.getElem?_set_self hi] at h; cases h
      exact ⟨_, e1, rp⟩
    · rw [List.getElem?_set_ne (Ne.symm z)] at h
      have q := A.sl j s h
      cases s with
      | non => trivial
      | val x => obtain ⟨v, e2, r2⟩ := q; exact ⟨v, e2, r2.mono lg⟩
      | exn x => obtain ⟨a2, c2, d2, e2, e3, r2⟩ := q; exact ⟨a2, c2, d2, e2, e3, r2.mono lg⟩
      | own b m' =>
        obtain ⟨c, e2, gc, r2⟩ := q
        refine ⟨c, e2, ?_, r2.mono lg rfl⟩
        rw [upd_ne]
        · exact gc
        · rintro rfl
          exact z (A.inj j i _ _ _ _ c h e e2 e1)
  · by_cases hb : b = a
    · subst hb; exact .inr (.inr ⟨i, m, e, e1⟩)
    · rw [upd_ne hb] at h; exact .inl h
  · obtain ⟨j, b', m', h1, h2⟩ := h
    exact .inl ⟨j, b', m', (back _ _ _ h1).2, h2⟩
  · have z : j ≠ i := by rintro rfl; rw [e] at h; cases h
    exact ⟨⟨m', by rw [List.getElem?_set_ne (Ne.symm z)]; exact h⟩, rfl⟩
  · exact ⟨m', (back _ _ _ h).2⟩
theorem re_var (i : Nat) (h : PE X e (tVar i)) : RE D W X e (getv i) := h.imp fun σ H Q ⟨G, ρ, A, k⟩ => by
  unfold getv at k
  split at k
  · rename_i x e
    obtain ⟨v, e1, r⟩ := A.val e
    exact ⟨v, e1, k G H (Nx.refl A) v r⟩
  · rename_i m e
    obtain ⟨a, G', e1, r, n⟩ := A.freeze e
    exact ⟨_, e1, k G' H n _ r⟩
  · exact False.elim k

/-! ### constants -/
def cst (x : PV) : EM PV := fun ρ => .ok x ρ
theorem re_cst {v : V} {x : PV} (h : PE X e (tC v)) (r : ∀ G, Rep D G x v) : RE D W X e (cst x) := h.imp fun σ H Q ⟨G, ρ, A, k⟩ => k G H (Nx.refl A) v (r G)
theorem re_int {i : Int} {j : Nat} {pos : Pos} : RE D W X (.Constant (.int i) j pos) (cst (.int i)) := re_cst pe_int fun _ => rfl
theorem re_bl {b : Bool} {j : Nat} {pos : Pos} : RE D W X (.Constant (.bool b) j pos) (cst (.bl b)) := re_cst pe_bl fun _ => rfl
theorem re_non {j : Nat} {pos : Pos} : RE D W X (.Constant .none j pos) (cst .non) := re_cst pe_non fun _ => rfl
theorem re_str {x : Str} {j : Nat} {pos : Pos} : RE D W X (.Constant (.str x) j pos) (cst (.str x)) := re_cst pe_str fun _ => rfl

/-! ### two operands -/
/-- a two-place operation by values answers the pure one -/
def Sn2 (D : Wd) (r : R2) (g : PV → PV → Option PV) : Prop := ∀ (G H : Hp) (x y z : PV) (v w : V) (Q : VK), LeG G H → RepH D G H x v → RepH D G H y w → g x y = some z →
  (∀ G' H' v', Grow G H G' H' → Rep D G' z v' → Q v' H') → r v w H Q
def bin (g : PV → PV → Option PV) (m1 m2 : EM PV) : EM PV := fun ρ => (m1 ρ).bind fun x ρ => (m2 ρ).bind fun y ρ => lift (g x y) ρ
/-- the left operand is a name: what it holds is looked at behind the right one -/
def binN (g : PV → PV → Option PV) (i : Nat) (m2 : EM PV) : EM PV := fun ρ => (peek i ρ).bind fun _ ρ => (m2 ρ).bind fun y ρ => (peek i ρ).bind fun x ρ => lift (g x y) ρ
theorem bin_le {r : R2} {g : PV → PV → Option PV} {m1 m2 : EM PV} (sn : Sn2 D r g) (σ : St) (H : Hp) (Q : VK) (h : tE D W (bin g m1 m2) σ H Q) : tOp r (tE D W m1) (tP D W m2) σ H Q := by
  obtain ⟨G, ρ, A, k⟩ := h
  refine ⟨G, ρ, A, (Kg.bind k).mono fun x ρ1 G1 H1 n1 k1 v rv => ⟨G1, ρ1, n1.abs, (Kg.bind k1).mono fun y ρ2 G2 H2 n2 k2 w rw' => ?_⟩⟩
  obtain ⟨z, e, f⟩ := Kg.lift n2.abs k2
  exact sn G2 H2 x y z v w Q n2.abs.le ((rv.mono n2.leg).toH n2.abs.le) rw' e fun G' H' v' g' r' => f G' H' g' v' r'
theorem binN_le {r : R2} {g : PV → PV → Option PV} {i : Nat} {m2 : EM PV} (sn : Sn2 D r g) (σ : St) (H : Hp) (Q : VK) (h : tE D W (binN g i m2) σ H Q) : tOp r (tVar i) (tP D W m2) σ H Q := by
  obtain ⟨G, ρ, A, k⟩ := h
  obtain ⟨x0, v, ev, r0, k0⟩ := peek_ok A (Kg.bind k)
  refine ⟨v, ev, G, ρ, A, (Kg.bind k0).mono fun y ρ2 G2 H2 n2 k2 w rw' => ?_⟩
  obtain ⟨x, v', ev', rv, k3⟩ := peek_ok n2.abs (Kg.bind k2)
  rw [ev] at ev'; cases ev'
  obtain ⟨z, e, f⟩ := Kg.lift n2.abs k3
  exact sn G2 H2 x y z v w Q n2.abs.le rv rw' e fun G' H' v' g' r' => f G' H' g' v' r'
theorem re_bin {op : Operator} {r : R2} {g : PV → PV → Option PV} {a b : Expr} {pos : Pos} {m1 m2 : EM PV} (ho : OpR X (binaryOp op) r) (sn : Sn2 D r g) (ha : RE D W X a m1) (hb : RP D W X b m2) : RE D W X (.BinOp a op b pos) (bin g m1 m2) :=
  (pe_op ho ha hb).imp (bin_le sn)
theorem re_binN {op : Operator} {r : R2} {g : PV → PV → Option PV} {a b : Expr} {pos : Pos} {i : Nat} {m2 : EM PV} (ho : OpR X (binaryOp op) r) (sn : Sn2 D r g) (ha : PE X a (tVar i)) (hb : RP D W X b m2) : RE D W X (.BinOp a op b pos) (binN g i m2) :=
  (pe_op ho ha hb).imp (binN_le sn)
theorem re_cmp {op : CmpOp} {r : R2} {g : PV → PV → Option PV} {a b : Expr} {pos : Pos} {m1 m2 : EM PV} (hm : behindInMarks op b = false) (ho : OpR X (compareOp op) r) (sn : Sn2 D r g) (ha : RE D W X a m1) (hb : RP D W X b m2) : RE D W X (.Compare a [op] [b] pos) (bin g m1 m2) :=
  (pe_cmpR ho ha hb hm).imp (bin_le sn)
theorem re_cmpN {op : CmpOp} {r : R2} {g : PV → PV → Option PV} {a b : Expr} {pos : Pos} {i : Nat} {m2 : EM PV} (hm : behindInMarks op b = false) (ho : OpR X (compareOp op) r) (sn : Sn2 D r g) (ha : PE X a (tVar i)) (hb : RP D W X b m2) : RE D W X (.Compare a [op] [b] pos) (binN g i m2) :=
  (pe_cmpR ho ha hb hm).imp (binN_le sn)
end
end TR

set_option Elab.async false
set_option linter.all false
set_option maxRecDepth 100000
/-! TRC: operators on pure data and their rules. -/
namespace TR
open PySem PySem.Spec L2
set_option autoImplicit false

/-- list + list, whatever the lists are (tracked, locked, written) -/
def rCatS (K : PySem.W.Frag) : R2 := fun x y H Q => ∃ l b xs zs, x = .ref l ∧ y = .ref b ∧ SqL K H l xs ∧ SqL K H b zs ∧ xs.length + zs.length ≤ sizeLine ∧ ∀ p, H p = none → Q (.ref p) (upd H p (.lst (xs ++ zs)))
theorem op_catS {X : Cx} : OpR X (binaryOp .Add) (rCatS X.K) := by
  intro pins s σ H x y v u Q I rx ry h
  obtain ⟨l, b, xs, zs, rfl, rfl, hH, hB, hz, q⟩ := h
  cases rx
  cases ry
  obtain ⟨its, r, p1, _⟩ := I.list hH
  obtain ⟨its2, r2, p2, _⟩ := I.list hB
  obtain ⟨⟨cls, dd, data, sl⟩, ho, hc, n, hd⟩ := id p1.isList
  obtain ⟨⟨cls2, dd2, data2, sl2⟩, ho2, hc2, n2, hd2⟩ := id p2.isList
  simp only at hc hd hc2 hd2
  subst hc hd hc2 hd2
  have hl := r.length
  have hl2 := r2.length
  refine concat_meets ⟨_, ho, rfl⟩ ⟨_, ho2, rfl⟩ noFill_list_add seq_list_add PySem.F.slot_list_add PySem.F.entry_list_add (PySem.F.args_list_add_2 _ _) (PyProof.Rows.list_addW l b its.toArray its2.toArray n n2 dd dd2 sl sl2 (by simp; omega)) ⟨ho, ho2, ?_⟩
  have ea : its.toArray ++ its2.toArray = (its ++ its2).toArray := by simp
  rw [ea]
  exact ⟨.ref _, _, I.lnew (t' := s.toks) (r.append r2) (by rw [List.length_append]; omega), rfl, q _ I.fresh⟩

section
variable {D : Wd} {W : WX} {X : Cx}
/-- nothing is made: the value goes on in the heap as it is -/
theorem flat2 {G H : Hp} {z : PV} {v : V} {Q : VK} (l : LeG G H) (r : Rep D G z v) (q : ∀ G' H' v', Grow G H G' H' → Rep D G' z v' → Q v' H') : Q v H := q G H v (Grow.refl l) r
theorem new2 {G H : Hp} {z : PV} {o : HO} {Q : VK} (l : LeG G H) (r : ∀ p, LeG G (upd G p o) → Rep D (upd G p o) z (.ref p)) (q : ∀ G' H' v', Grow G H G' H' → Rep D G' z v' → Q v' H') : ∀ p, H p = none → Q (.ref p) (upd H p o) :=
  fun p hp => q _ _ _ (Grow.new l hp) (r p (Grow.new l hp).leg)
/-- an element of the frozen items under a list that may be an own one -/
theorem RepH.lst {G H : Hp} {xs : List PV} {v : V} (h : RepH D G H (.lst xs) v) : ∃ a vs, v = .ref a ∧ SqL D.K H a vs ∧ Reps D G xs vs := h
theorem RepH.tup {G H : Hp} {xs : List PV} {v : V} (l : LeG G H) (h : RepH D G H (.tup xs) v) : ∃ a vs, v = .ref a ∧ SqT D.K H a vs ∧ Reps D G xs vs := by
  obtain ⟨a, vs, e, q, r⟩ := h
  exact ⟨a, vs, e, sqT_mono l q, r⟩

/-! ### + - * // % ** -/
def pyAdd : PV → PV → Option PV
  | .int i, .int j => some (.int (i + j))
  | .str a, .str b => if a.length + b.length ≤ sizeLine then some (.str (a ++ b)) else none
  | .lst xs, .lst ys => if xs.length + ys.length ≤ sizeLine then some (.lst (xs ++ ys)) else none
  | .tup xs, .tup ys => if xs.length + ys.length ≤ sizeLine then some (.tup (xs ++ ys)) else none
  | _, _ => none
def rAddP (K : PySem.W.Frag) : R2 := fun x y H Q => rI0 (fun i j => .int (i + j)) x y H Q ∨ (∃ i j, x = .str i ∧ y = .str j ∧ i.length + j.length ≤ sizeLine ∧ Q (.str (i ++ j)) H) ∨ rCatS K x y H Q ∨ rCatA K x y H Q
theorem op_addP : OpR X (binaryOp .Add) (rAddP X.K) := op_add.or (op_add_str.or (op_catS.or op_catA))
theorem sn_add : Sn2 D (rAddP D.K) pyAdd := by
  intro G H x y z v w Q l rx ry e q
  unfold pyAdd at e
  split at e
  · cases e; cases rx; cases ry
    exact .inl ⟨_, _, rfl, rfl, flat2 l (z := .int _) rfl q⟩
  · split at e
    · rename_i h
      cases e; cases rx; cases ry
      exact .inr (.inl ⟨_, _, rfl, rfl, h, flat2 l (z := .str _) rfl q⟩)
    · cases e
  · split at e
    · rename_i h
      cases e
      obtain ⟨a, vs, rfl, s1, r1⟩ := rx
      obtain ⟨b, ws, rfl, s2, r2⟩ := ry
      refine .inr (.inr (.inl ⟨a, b, vs, ws, rfl, rfl, s1, s2, by rw [r1.length, r2.length]; exact h, new2 (D := D) (z := .lst _) l (fun p lg => ⟨p, vs ++ ws, rfl, .inl (.inl upd_same), (r1.mono lg).append (r2.mono lg)⟩) q⟩))
    · cases e
  · split at e
    · rename_i h
      cases e
      obtain ⟨a, vs, rfl, s1, r1⟩ := rx.tup l
      obtain ⟨b, ws, rfl, s2, r2⟩ := ry.tup l
      refine .inr (.inr (.inr ⟨a, b, vs, ws, rfl, rfl, s1, s2, by rw [r1.length, r2.length]; exact h, fun e0 => ?_, fun e0 e1 => ?_, fun _ _ => new2 (D := D) (z := .tup _) l (fun p lg => ⟨p, vs ++ ws, rfl, .inl (.inl upd_same), (r1.mono lg).append (r2.mono lg)⟩) q⟩))
      · subst e0
        have hx := r1.length
        have : _ = [] := List.length_eq_zero_iff.mp (show _ = 0 from hx.symm)
        subst this
        exact flat2 l ry q
      · subst e1
        have hx := r2.length
        have : _ = [] := List.length_eq_zero_iff.mp (show _ = 0 from hx.symm)
        subst this
        rw [List.append_nil] at q
        exact flat2 l rx q
    · cases e
  · cases e
def pyI (C : Int → Int → Prop) [∀ i j, Decidable (C i j)] (g : Int → Int → PV) : PV → PV → Option PV
  | .int i, .int j => if C i j then some (g i j) else none
  | _, _ => none
theorem sn_I {C : Int → Int → Prop} [∀ i j, Decidable (C i j)] {g : Int → Int → PV} {g' : Int → Int → V} (h : ∀ (G : Hp) i j, Rep D G (g i j) (g' i j)) : Sn2 D (rI C g') (pyI C g) := by
  intro G H x y z v w Q l rx ry e q
  unfold pyI at e
  split at e
  · split at e
    · rename_i c
      cases e; cases rx; cases ry
      exact ⟨_, _, rfl, rfl, c, flat2 l (h G _ _) q⟩
    · cases e
  · cases e
instance (i j : Int) : Decidable (CMulW i j) := inferInstanceAs (Decidable (_ < _))
instance (i j : Int) : Decidable (CDivW i j) := inferInstanceAs (Decidable (_ ∧ _))
def CPowW (i j : Int) : Prop := 0 ≤ j ∧ (Builtin.Int.intBits i : Int) * j ≤ 2 ^ 27
instance (i j : Int) : Decidable (CPowW i j) := inferInstanceAs (Decidable (_ ∧ _))
theorem op_powW : OpR X (binaryOp .Pow) (rI CPowW fun i j => .int (i ^ j.toNat)) := opI fun _ _ _ _ _ _ _ hc q => PyProof.Rows.pow_int hc.1 hc.2 q
def pySub := pyI (fun _ _ => True) fun i j => .int (i - j)
theorem op_subP : OpR X (binaryOp .Sub) (rI (fun _ _ => True) fun i j => .int (i - j)) := fun pins s σ H x y v u Q I rx ry ⟨i, j, e1, e2, _, q⟩ => op_sub pins s σ H x y v u Q I rx ry ⟨i, j, e1, e2, q⟩
theorem sn_sub : Sn2 D (rI (fun _ _ => True) fun i j => .int (i - j)) pySub := sn_I fun _ _ _ => rfl
def pyMul := pyI CMulW fun i j => .int (i * j)
theorem sn_mul : Sn2 D (rI CMulW fun i j => .int (i * j)) pyMul := sn_I fun _ _ _ => rfl
def pyMod := pyI (fun _ j => 0 < j) fun i j => .int (i % j)
theorem sn_mod : Sn2 D (rI (fun _ j => 0 < j) fun i j => .int (i % j)) pyMod := sn_I fun _ _ _ => rfl
def pyDiv := pyI CDivW fun i j => .int (i / j)
theorem sn_div : Sn2 D (rI CDivW fun i j => .int (i / j)) pyDiv := sn_I fun _ _ _ => rfl
def pyPow := pyI CPowW fun i j => .int (i ^ j.toNat)
theorem sn_pow : Sn2 D (rI CPowW fun i j => .int (i ^ j.toNat)) pyPow := sn_I fun _ _ _ => rfl

/-! ### == != -/
mutual
def PV.toD : PV → Option PyData
  | .non => some .none
  | .bl b => some (.bool b)
  | .int i => some (.int i)
  | .str s => some (.str s)
  | .lst xs => (toDs xs).map .list
  | .tup xs => (toDs xs).map .tuple
  | .dct _ => none
  | .obj _ _ => none
def toDs : List PV → Option (List PyData)
  | [] => some []
  | x :: xs => match x.toD, toDs xs with
    | some d, some ds => some (d :: ds)
    | _, _ => none
end
mutual
theorem dp_of {G : Hp} : ∀ (x : PV) (d : PyData) (v : V), x.toD = some d → Rep D G x v → Dp D.K G v d
  | .non, _, _, e, r => by cases e; cases r; exact .non
  | .bl b, _, _, e, r => by cases e; cases r; exact .bl b
  | .int b, _, _, e, r => by cases e; cases r; exact .int b
  | .str b, _, _, e, r => by cases e; cases r; exact .str b
  | .lst xs, _, _, e, r => by
    obtain ⟨a, vs, rfl, s, rs⟩ := r
    rw [PV.toD] at e
    cases h : toDs xs with
    | none => rw [h] at e; cases e
    | some ds => rw [h] at e; cases e; exact .lst s (dps_of xs ds vs h rs)
  | .tup xs, _, _, e, r => by
    obtain ⟨a, vs, rfl, s, rs⟩ := r
    rw [PV.toD] at e
    cases h : toDs xs with
    | none => rw [h] at e; cases e
    | some ds => rw [h] at e; cases e; exact .tup s (dps_of xs ds vs h rs)
  | .dct _, _, _, e, _ => by cases e
  | .obj _ _, _, _, e, _ => by cases e
theorem dps_of {G : Hp} : ∀ (xs : List PV) (ds : List PyData) (vs : List V), toDs xs = some ds → Reps D G xs vs → DpAll D.K G vs ds
  | [], _, _, e, r => by cases e; rw [show _ = [] from r]; exact .nil
  | x :: xs, _, _, e, r => by
    obtain ⟨v, vs, rfl, r1, r2⟩ := r
    rw [toDs] at e
    cases h1 : x.toD with
    | none => rw [h1] at e; cases e
    | some d =>
      cases h2 : toDs xs with
      | none => rw [h1, h2] at e; cases e
      | some ds =>
        rw [h1, h2] at e; cases e
        exact .cons (dp_of x d v h1 r1) (dps_of xs ds vs h2 r2)
end
mutual
theorem Dp.mono' {K : PySem.W.Frag} {G G' : Hp} (l : LeG G G') : ∀ {d : PyData} {v : V}, Dp K G v d → Dp K G' v d
  | .none, _, h => by cases h; exact .non
  | .bool _, _, h => by cases h; exact .bl _
  | .int _, _, h => by cases h; exact .int _
  | .str _, _, h => by cases h; exact .str _
  | .list ds, _, h => by
    cases h with
    | lst s r => exact .lst (sqL_mono l s) (DpAll.mono' l r)
  | .tuple ds, _, h => by
    cases h with
    | tup s r => exact .tup (sqT_mono l s) (DpAll.mono' l r)
  | .dict _, _, h => by cases h
theorem DpAll.mono' {K : PySem.W.Frag} {G G' : Hp} (l : LeG G G') : ∀ {ds : List PyData} {vs : List V}, DpAll K G vs ds → DpAll K G' vs ds
  | [], _, h => by cases h; exact .nil
  | d :: ds, _, h => by
    cases h with
    | cons h1 h2 => exact .cons (Dp.mono' l h1) (DpAll.mono' l h2)
end
theorem dpH_of {G H : Hp} {x : PV} {d : PyData} {v : V} (l : LeG G H) (e : x.toD = some d) (r : RepH D G H x v) : Dp D.K H v d := by
  cases x with
  | lst xs =>
    obtain ⟨a, vs, rfl, s, rs⟩ := r
    rw [PV.toD] at e
    cases h : toDs xs with
    | none => rw [h] at e; cases e
    | some ds => rw [h] at e; cases e; exact .lst s (DpAll.mono' l (dps_of xs ds vs h rs))
  | dct _ => cases e
  | obj _ _ => cases e
  | _ => exact Dp.mono' l (dp_of _ d v e r)
/-- plain data at most 64 deep -/
def PV.dat (x : PV) : Option PyData := match x.toD with
  | some d => if SeqAt.shaped d then some d else none
  | none => none
theorem PV.dat_of {x : PV} {d : PyData} (h : x.dat = some d) : x.toD = some d ∧ SeqAt.shaped d = true := by
  unfold PV.dat at h
  split at h
  · rename_i d' e
    split at h
    · rename_i s; cases h; exact ⟨e, s⟩
    · cases h
  · cases h
def scalE : PV → PV → Option Bool
  | .str a, .str b => some (decide (a = b))
  | .str _, .non => some false
  | .str _, .int _ => some false
  | .str _, .bl _ => some false
  | .non, .str _ => some false
  | .int _, .str _ => some false
  | .bl _, .str _ => some false
  | _, _ => none
theorem scal_rep {G H : Hp} {x y : PV} {v w : V} {k : Bool} (rx : RepH D G H x v) (ry : RepH D G H y w) (e : scalE x y = some k) : scal v w = true ∧ decide (v = w) = k := by
  unfold scalE at e
  split at e <;> first
    | (cases e; cases rx; cases ry; refine ⟨rfl, ?_⟩; rw [decide_eq_decide]; exact ⟨fun h => by injection h, fun h => by rw [h]⟩)
    | (cases e; cases rx; cases ry; exact ⟨rfl, decide_eq_false fun h => nomatch h⟩)
    | cases e
def eqD (x y : PV) : Option Bool := match x.dat, y.dat with
  | some d, some e => some (PyData.eqv d e)
  | _, _ => none
def eqQ (x y : PV) : Option Bool := match scalE x y with
  | some k => some k
  | none => eqD x y
def pyEq (x y : PV) : Option PV := (eqQ x y).map .bl
def pyNe (x y : PV) : Option PV := (eqQ x y).map fun k => .bl (!k)
def rEqP (K : PySem.W.Frag) : R2 := fun x y H Q => rEq x y H Q ∨ rEqD K x y H Q
def rNeP (K : PySem.W.Frag) : R2 := fun x y H Q => rNe x y H Q ∨ rNeD K x y H Q
theorem op_eqP (hu : X.A.units + 64 < cLine) : OpR X (compareOp .Eq) (rEqP X.K) := op_eq.or (op_eqD hu)
theorem op_neP (hu : X.A.units + 64 < cLine) : OpR X (compareOp .NotEq) (rNeP X.K) := op_ne.or (op_neD hu)
theorem eqQ_rep {G H : Hp} {x y : PV} {v w : V} {k : Bool} (l : LeG G H) (rx : RepH D G H x v) (ry : RepH D G H y w) (e : eqQ x y = some k) :
    (scal v w = true ∧ decide (v = w) = k) ∨ ∃ d d', Dp D.K H v d ∧ Dp D.K H w d' ∧ SeqAt.shaped d = true ∧ SeqAt.shaped d' = true ∧ PyData.eqv d d' = k := by
  unfold eqQ at e
  split at e
  · rename_i k' h
    cases e
    exact .inl (scal_rep rx ry h)
  · unfold eqD at e
    split at e
    · rename_i d d' h1 h2
      cases e
      exact .inr ⟨d, d', dpH_of l (PV.dat_of h1).1 rx, dpH_of l (PV.dat_of h2).1 ry, (PV.dat_of h1).2, (PV.dat_of h2).2, rfl⟩
    · cases e
theorem sn_eq : Sn2 D (rEqP D.K) pyEq := by
  intro G H x y z v w Q l rx ry e q
  unfold pyEq at e
  cases h : eqQ x y with
  | none => rw [h] at e; cases e
  | some k =>
    rw [h] at e
    cases e
    rcases eqQ_rep l rx ry h with ⟨h1, h2⟩ | ⟨d, d', h1, h2, h3, h4, h5⟩
    · exact .inl ⟨h1, by rw [h2]; exact flat2 l (z := .bl _) rfl q⟩
    · exact .inr ⟨d, d', h1, h2, h3, h4, by rw [h5]; exact flat2 l (z := .bl _) rfl q⟩
theorem sn_ne : Sn2 D (rNeP D.K) pyNe := by
  intro G H x y z v w Q l rx ry e q
  unfold pyNe at e
  cases h : eqQ x y with
  | none => rw [h] at e; cases e
  | some k =>
    rw [h] at e
    cases e
    rcases eqQ_rep l rx ry h with ⟨h1, h2⟩ | ⟨d, d', h1, h2, h3, h4, h5⟩
    · exact .inl ⟨h1, by rw [h2]; exact flat2 l (z := .bl _) rfl q⟩
    · exact .inr ⟨d, d', h1, h2, h3, h4, by rw [h5]; exact flat2 l (z := .bl _) rfl q⟩

/-! ### < <= > >= of ints and texts -/
def pyLt : PV → PV → Option PV
  | .int i, .int j => some (.bl (decide (i < j)))
  | .str a, .str b => some (.bl (decide (a.cps.toList < b.cps.toList)))
  | _, _ => none
def pyLe : PV → PV → Option PV
  | .int i, .int j => some (.bl (decide (i ≤ j)))
  | .str a, .str b => some (.bl (!decide (b.cps.toList < a.cps.toList)))
  | _, _ => none
def pyGt : PV → PV → Option PV
  | .int i, .int j => some (.bl (decide (j < i)))
  | .str a, .str b => some (.bl (decide (b.cps.toList < a.cps.toList)))
  | _, _ => none
def pyGe : PV → PV → Option PV
  | .int i, .int j => some (.bl (decide (j ≤ i)))
  | .str a, .str b => some (.bl (!decide (a.cps.toList < b.cps.toList)))
  | _, _ => none
def rOrd (p : Int → Int → Bool) (q : Str → Str → Bool) : R2 := fun x y H Q => rI0 (fun i j => .bl (p i j)) x y H Q ∨ ∃ i j, x = .str i ∧ y = .str j ∧ Q (.bl (q i j)) H
def pyOrd (p : Int → Int → Bool) (q : Str → Str → Bool) : PV → PV → Option PV
  | .int i, .int j => some (.bl (p i j))
  | .str a, .str b => some (.bl (q a b))
  | _, _ => none
theorem sn_ord {p : Int → Int → Bool} {q : Str → Str → Bool} : Sn2 D (rOrd p q) (pyOrd p q) := by
  intro G H x y z v w Q l rx ry e f
  unfold pyOrd at e
  split at e
  · cases e; cases rx; cases ry
    exact .inl ⟨_, _, rfl, rfl, flat2 l (z := .bl _) rfl f⟩
  · cases e; cases rx; cases ry
    exact .inr ⟨_, _, rfl, rfl, flat2 l (z := .bl _) rfl f⟩
  · cases e
theorem pyLt_eq : pyLt = pyOrd (fun i j => decide (i < j)) (fun a b => decide (a.cps.toList < b.cps.toList)) := by
  funext x y; cases x <;> cases y <;> rfl
theorem pyLe_eq : pyLe = pyOrd (fun i j => decide (i ≤ j)) (fun a b => !decide (b.cps.toList < a.cps.toList)) := by
  funext x y; cases x <;> cases y <;> rfl
theorem pyGt_eq : pyGt = pyOrd (fun i j => decide (j < i)) (fun a b => decide (b.cps.toList < a.cps.toList)) := by
  funext x y; cases x <;> cases y <;> rfl
theorem pyGe_eq : pyGe = pyOrd (fun i j => decide (j ≤ i)) (fun a b => !decide (a.cps.toList < b.cps.toList)) := by
  funext x y; cases x <;> cases y <;> rfl
theorem op_ltP : OpR X (compareOp .Lt) (rOrd (fun i j => decide (i < j)) (fun a b => decide (a.cps.toList < b.cps.toList))) := op_lt.or op_lt_str
theorem op_leP : OpR X (compareOp .LtE) (rOrd (fun i j => decide (i ≤ j)) (fun a b => !decide (b.cps.toList < a.cps.toList))) := op_le.or op_le_str
theorem op_gtP : OpR X (compareOp .Gt) (rOrd (fun i j => decide (j < i)) (fun a b => decide (b.cps.toList < a.cps.toList))) := op_gt.or op_gt_str
theorem op_geP : OpR X (compareOp .GtE) (rOrd (fun i j => decide (j ≤ i)) (fun a b => !decide (a.cps.toList < b.cps.toList))) := op_ge.or op_ge_str
theorem sn_lt : Sn2 D (rOrd (fun i j => decide (i < j)) (fun a b => decide (a.cps.toList < b.cps.toList))) pyLt := pyLt_eq ▸ sn_ord
theorem sn_le : Sn2 D (rOrd (fun i j => decide (i ≤ j)) (fun a b => !decide (b.cps.toList < a.cps.toList))) pyLe := pyLe_eq ▸ sn_ord
theorem sn_gt : Sn2 D (rOrd (fun i j => decide (j < i)) (fun a b => decide (b.cps.toList < a.cps.toList))) pyGt := pyGt_eq ▸ sn_ord
theorem sn_ge : Sn2 D (rOrd (fun i j => decide (j ≤ i)) (fun a b => !decide (a.cps.toList < b.cps.toList))) pyGe := pyGe_eq ▸ sn_ord

/-! ### is, is not: the right side None or a flag -/
def isQ : PV → PV → Option Bool
  | .non, .non => some true
  | _, .non => some false
  | .bl a, .bl b => some (a == b)
  | _, .bl _ => some false
  | _, _ => none
def pyIs (x y : PV) : Option PV := (isQ x y).map .bl
def pyIsNot (x y : PV) : Option PV := (isQ x y).map fun b => .bl (!b)
def isV : V → V → Option Bool
  | .non, .non => some true
  | _, .non => some false
  | .bl a, .bl b => some (a == b)
  | _, .bl _ => some false
  | _, _ => none
def rIsP (n : Bool) : R2 := fun x y H Q => ∃ b, isV x y = some b ∧ Q (.bl (if n then !b else b)) H
theorem same_run {x y : V} {v u : Value} {b : Bool} (rx : RelV x v) (ry : RelV y u) (h : isV x y = some b) : plainIs v u = true ∧ (v == u) = b := by
  cases y with
  | non =>
    cases ry
    cases x with
    | non => cases rx; cases h; exact ⟨rfl, rfl⟩
    | bl a => cases rx; cases h; exact ⟨rfl, rfl⟩
    | int a => obtain ⟨t, rfl⟩ := rx; cases h; exact ⟨rfl, rfl⟩
    | str a => obtain ⟨t, rfl⟩ := rx; cases h; exact ⟨rfl, rfl⟩
    | byt a => obtain ⟨t, rfl⟩ := rx; cases h; exact ⟨rfl, rfl⟩
    | flt a => obtain ⟨t, rfl⟩ := rx; cases h; exact ⟨rfl, rfl⟩
    | ref a => cases rx; cases h; exact ⟨rfl, rfl⟩
    | ty a => cases rx; cases h; exact ⟨rfl, rfl⟩
  | bl c =>
    cases ry
    cases x with
    | non => cases rx; cases h; exact ⟨rfl, rfl⟩
    | bl a =>
      cases rx
      have e : (a == c) = b := Option.some.inj h
      refine ⟨rfl, ?_⟩
      rw [← e]
      cases a <;> cases c <;> rfl
    | int a => obtain ⟨t, rfl⟩ := rx; cases h; exact ⟨rfl, rfl⟩
    | str a => obtain ⟨t, rfl⟩ := rx; cases h; exact ⟨rfl, rfl⟩
    | byt a => obtain ⟨t, rfl⟩ := rx; cases h; exact ⟨rfl, rfl⟩
    | flt a => obtain ⟨t, rfl⟩ := rx; cases h; exact ⟨rfl, rfl⟩
    | ref a => cases rx; cases h; exact ⟨rfl, rfl⟩
    | ty a => cases rx; cases h; exact ⟨rfl, rfl⟩
  | _ => cases x <;> cases h
theorem op_isP : OpR X (compareOp .Is) (rIsP false) := by
  intro pins s σ H x y v u Q I rx ry h
  obtain ⟨b, e, q⟩ := h
  obtain ⟨p, rfl⟩ := same_run rx ry e
  exact wpAny_is_plain p ⟨.bl _, H, I, rfl, q⟩
theorem op_isNotP : OpR X (compareOp .IsNot) (rIsP true) := by
  intro pins s σ H x y v u Q I rx ry h
  obtain ⟨b, e, q⟩ := h
  obtain ⟨p, rfl⟩ := same_run rx ry e
  exact wpAny_isNot_plain p ⟨.bl _, H, I, rfl, q⟩
theorem isQ_V {G H : Hp} {x y : PV} {v w : V} {b : Bool} (rx : RepH D G H x v) (ry : RepH D G H y w) (e : isQ x y = some b) : isV v w = some b := by
  cases y with
  | non =>
    cases ry
    cases x with
    | non => cases rx; exact e
    | bl a => cases rx; exact e
    | int a => cases rx; exact e
    | str a => cases rx; exact e
    | lst a => obtain ⟨_, _, rfl, _⟩ := rx; exact e
    | tup a => obtain ⟨_, _, rfl, _⟩ := rx; exact e
    | dct a => obtain ⟨_, _, rfl, _⟩ := rx; exact e
    | obj a b => obtain ⟨_, _, _, _, rfl, _⟩ := rx; exact e
  | bl c =>
    cases ry
    cases x with
    | non => cases rx; exact e
    | bl a => cases rx; exact e
    | int a => cases rx; exact e
    | str a => cases rx; exact e
    | lst a => obtain ⟨_, _, rfl, _⟩ := rx; exact e
    | tup a => obtain ⟨_, _, rfl, _⟩ := rx; exact e
    | dct a => obtain ⟨_, _, rfl, _⟩ := rx; exact e
    | obj a b => obtain ⟨_, _, _, _, rfl, _⟩ := rx; exact e
  | _ => cases x <;> cases e
theorem sn_is : Sn2 D (rIsP false) pyIs := by
  intro G H x y z v w Q l rx ry e q
  unfold pyIs at e
  cases h : isQ x y with
  | none => rw [h] at e; cases e
  | some b => rw [h] at e; cases e; exact ⟨b, isQ_V rx ry h, flat2 l (z := .bl _) rfl q⟩
theorem sn_isNot : Sn2 D (rIsP true) pyIsNot := by
  intro G H x y z v w Q l rx ry e q
  unfold pyIsNot at e
  cases h : isQ x y with
  | none => rw [h] at e; cases e
  | some b => rw [h] at e; cases e; exact ⟨b, isQ_V rx ry h, flat2 l (z := .bl _) rfl q⟩
end
end TR

set_option Elab.async false
set_option linter.all false
set_option maxRecDepth 100000
/-! TRD: tests, subscripts, arguments, calls. -/
namespace TR
open PySem PySem.Spec L2
set_option autoImplicit false
section
variable {D : Wd} {W : WX} {X : Cx} {a b c e : Expr} {pos : Pos} {m m1 m2 m3 : EM PV}

/-! ### truth -/
def pyTruth : PV → Option Bool
  | .non => some false
  | .bl b => some b
  | .int i => some (i != 0)
  | .str s => if s.length ≤ sizeLine then some ((s.length : Int) != 0) else none
  | .lst xs => some (!xs.isEmpty)
  | .tup xs => some (!xs.isEmpty)
  | .dct kvs => some (!kvs.isEmpty)
  | .obj _ _ => none
def rTru (K : PySem.W.Frag) : V → Hp → (Bool → Hp → Prop) → Prop := fun x H Q => (∃ k, TruV K x H k ∧ Q k H) ∨ ∃ a kvs, x = .ref a ∧ Rd H a (.dK kvs) ∧ Q (!kvs.isEmpty) H
theorem tru_all : TruR X (rTru X.K) := by
  intro pins s σ H x v Q I r h
  rcases h with h | ⟨a, kvs, rfl, hd, q⟩
  · exact tru_ok pins s σ H x v Q I r h
  · cases r
    exact d_truth I hd fun s' I' => ⟨H, I', q⟩
theorem isEmpty_reps {D : Wd} {G : Hp} {xs : List PV} {vs : List V} (r : Reps D G xs vs) : vs.isEmpty = xs.isEmpty := by
  have := r.length
  cases xs <;> cases vs <;> simp_all
theorem isEmpty_repd {D : Wd} {G : Hp} {xs : List (Key × PV)} {vs : List (Key × V)} (r : RepD D G xs vs) : vs.isEmpty = xs.isEmpty := by
  have := r.length
  cases xs <;> cases vs <;> simp_all
theorem truth_rep {G H : Hp} {x : PV} {v : V} {k : Bool} {Q : Bool → Hp → Prop} (l : LeG G H) (r : RepH D G H x v) (e : pyTruth x = some k) (q : Q k H) : rTru D.K v H Q := by
  cases x with
  | non => cases r; cases e; exact .inl ⟨false, rfl, q⟩
  | bl b => cases r; cases e; exact .inl ⟨_, rfl, q⟩
  | int i => cases r; cases e; exact .inl ⟨_, rfl, q⟩
  | str s =>
    cases r
    rw [pyTruth] at e
    split at e
    · rename_i h; cases e; exact .inl ⟨_, ⟨h, rfl⟩, q⟩
    · cases e
  | lst xs =>
    obtain ⟨a, vs, rfl, s, rs⟩ := r
    cases e
    exact .inl ⟨_, .inl ⟨vs, s, by rw [isEmpty_reps rs]⟩, q⟩
  | tup xs =>
    obtain ⟨a, vs, rfl, s, rs⟩ := r.tup l
    cases e
    exact .inl ⟨_, .inr (.inl ⟨vs, s, by rw [isEmpty_reps rs]⟩), q⟩
  | dct xs =>
    obtain ⟨a, vs, rfl, s, rs⟩ := r
    cases e
    exact .inr ⟨a, vs, rfl, s, by rw [isEmpty_repd rs]; exact q⟩
  | obj c fs => cases e
/-- the truth of a value -/
def truM (m : EM PV) : EM Bool := fun ρ => (m ρ).bind fun x ρ => lift (pyTruth x) ρ
theorem rb_truth (h : RP D W X a m) (hK : D.K = X.K) (he : ∀ whole, isTrue a X.env whole = (do let v ← whole; standAt a.pos; holding [v] (truthy v)) := by exact fun _ => rfl) : RB D W X a (truM m) :=
  (pt_truthR h tru_all he).imp fun σ H Q ⟨G, ρ, A, k⟩ => ⟨G, ρ, A, (Kg.bind k).mono fun x ρ1 G1 H1 n k1 v r => by
    obtain ⟨z, e, f⟩ := Kg.lift n.abs k1
    rw [← hK]
    exact truth_rep n.abs.le r e (f G1 H1 (Grow.refl n.abs.le))⟩
/-- a flag's own value -/
def asB (m : EM PV) : EM Bool := fun ρ => (m ρ).bind fun x ρ => match x with
  | .bl b => .ok b ρ
  | _ => .stuck
theorem asB_le {t : TE} (h : ∀ σ H Q, tE D W m σ H Q → t σ H Q) (σ : St) (H : Hp) (Q : Bool → Hp → Prop) (k : tB D W (asB m) σ H Q) : tTest t σ H Q := by
  obtain ⟨G, ρ, A, k⟩ := k
  refine h _ _ _ ⟨G, ρ, A, (Kg.bind k).mono fun x ρ1 G1 H1 n k1 v r => ?_⟩
  cases x with
  | bl b => cases r; exact ⟨b, rfl, k1 G1 H1 (Nx.refl n.abs)⟩
  | _ => exact False.elim k1
theorem rb_cmp {op : CmpOp} {r : R2} {g : PV → PV → Option PV} (hm : behindInMarks op b = false) (ho : OpR X (compareOp op) r) (sn : Sn2 D r g) (ha : RE D W X a m1) (hb : RP D W X b m2) : RB D W X (.Compare a [op] [b] pos) (asB (bin g m1 m2)) :=
  (pt_cmpR ho ha hb hm).imp (asB_le (bin_le sn))
theorem rb_cmpN {op : CmpOp} {r : R2} {g : PV → PV → Option PV} {i : Nat} (hm : behindInMarks op b = false) (ho : OpR X (compareOp op) r) (sn : Sn2 D r g) (ha : PE X a (tVar i)) (hb : RP D W X b m2) : RB D W X (.Compare a [op] [b] pos) (asB (binN g i m2)) :=
  (pt_cmpR ho ha hb hm).imp (asB_le (binN_le sn))
/-- a op b op' c -/
def chn (g g' : PV → PV → Option PV) (m1 m2 m3 : EM PV) : EM PV := fun ρ => (m1 ρ).bind fun x ρ => (m2 ρ).bind fun y ρ => (lift (g x y) ρ).bind fun z ρ => match z with
  | .bl true => (m3 ρ).bind fun w ρ => lift (g' y w) ρ
  | .bl false => .ok (.bl false) ρ
  | _ => .stuck
theorem chn_le {r r' : R2} {g g' : PV → PV → Option PV} (sn : Sn2 D r g) (sn' : Sn2 D r' g') (σ : St) (H : Hp) (Q : VK) (h : tE D W (chn g g' m1 m2 m3) σ H Q) : tChain r r' (tE D W m1) (tE D W m2) (tP D W m3) σ H Q := by
  obtain ⟨G, ρ, A, k⟩ := h
  refine ⟨G, ρ, A, (Kg.bind k).mono fun x ρ1 G1 H1 n1 k1 v rv => ⟨G1, ρ1, n1.abs, (Kg.bind k1).mono fun y ρ2 G2 H2 n2 k2 w rw' => ?_⟩⟩
  obtain ⟨z, e, f⟩ := Kg.lift n2.abs (Kg.bind k2)
  refine sn G2 H2 x y z v w _ n2.abs.le ((rv.mono n2.leg).toH n2.abs.le) (rw'.toH n2.abs.le) e fun G' H' v' gr r1 => ?_
  have k3 := f G' H' gr
  cases z with
  | bl t =>
    cases r1
    refine ⟨t, rfl, ?_⟩
    cases t with
    | true =>
      rw [if_pos rfl]
      refine ⟨G', ρ2, (n2.abs.grow gr).abs, (Kg.bind k3).mono fun u ρ4 G4 H4 n4 k4 v4 r4 => ?_⟩
      obtain ⟨z', e', f'⟩ := Kg.lift n4.abs k4
      exact sn' G4 H4 y u z' w v4 Q n4.abs.le (((rw'.mono gr.leg).mono n4.leg).toH n4.abs.le) r4 e' fun G5 H5 v5 g5 r5 => f' G5 H5 g5 v5 r5
    | false =>
      rw [if_neg Bool.false_ne_true]
      exact k3 G' H' (Nx.refl (n2.abs.grow gr).abs) _ rfl
  | _ => exact False.elim k3
theorem re_chain {op op' : CmpOp} {r r' : R2} {g g' : PV → PV → Option PV} (ho : OpR X (compareOp op) r) (ho' : OpR X (compareOp op') r') (sn : Sn2 D r g) (sn' : Sn2 D r' g') (ha : RE D W X a m1) (hb : RE D W X b m2) (hc : RP D W X c m3)
    (hm : lastMarks [op, op'] [b, c] = false := by with_unfolding_all rfl) : RE D W X (.Compare a [op, op'] [b, c] pos) (chn g g' m1 m2 m3) := (pe_chain ho ho' ha hb hc hm).imp (chn_le sn sn')
theorem rb_chain {op op' : CmpOp} {r r' : R2} {g g' : PV → PV → Option PV} (ho : OpR X (compareOp op) r) (ho' : OpR X (compareOp op') r') (sn : Sn2 D r g) (sn' : Sn2 D r' g') (ha : RE D W X a m1) (hb : RE D W X b m2) (hc : RP D W X c m3)
    (hm : lastMarks [op, op'] [b, c] = false := by with_unfolding_all rfl) : RB D W X (.Compare a [op, op'] [b, c] pos) (asB (chn g g' m1 m2 m3)) := (pt_chain ho ho' ha hb hc hm).imp (asB_le (chn_le sn sn'))

/-! ### not, and, or as tests -/
def notM (t : EM Bool) : EM Bool := fun ρ => (t ρ).bind fun k ρ => .ok (!k) ρ
def andM (t u : EM Bool) : EM Bool := fun ρ => (t ρ).bind fun k ρ => match k with
  | true => u ρ
  | false => .ok false ρ
def orM (t u : EM Bool) : EM Bool := fun ρ => (t ρ).bind fun k ρ => match k with
  | true => .ok true ρ
  | false => u ρ
variable {t u : EM Bool} {rest : List Expr}
theorem rb_not (h : RB D W X a t) : RB D W X (.UnaryOp .Not a pos) (notM t) := (pt_not h).imp fun σ H Q ⟨G, ρ, A, k⟩ => ⟨G, ρ, A, (Kg.bind k).mono fun x ρ1 G1 H1 n k1 => k1 G1 H1 (Nx.refl n.abs)⟩
theorem rw_and1 (h : RB D W X a t) : RW D W X (.BoolOp .And [a] pos) t := pw_and1 h
theorem rw_or1 (h : RB D W X a t) : RW D W X (.BoolOp .Or [a] pos) t := pw_or1 h
theorem rw_and (h : RB D W X a t) (k : RW D W X (.BoolOp .And (b :: rest) pos) u) : RW D W X (.BoolOp .And (a :: b :: rest) pos) (andM t u) := (pw_and h k).imp fun σ H Q ⟨G, ρ, A, k⟩ => ⟨G, ρ, A, (Kg.bind k).mono fun x ρ1 G1 H1 n k1 => by
  cases x with
  | true => rw [if_pos rfl]; exact ⟨G1, ρ1, n.abs, k1⟩
  | false => rw [if_neg Bool.false_ne_true]; exact k1 G1 H1 (Nx.refl n.abs)⟩
theorem rw_or (h : RB D W X a t) (k : RW D W X (.BoolOp .Or (b :: rest) pos) u) : RW D W X (.BoolOp .Or (a :: b :: rest) pos) (orM t u) := (pw_or h k).imp fun σ H Q ⟨G, ρ, A, k⟩ => ⟨G, ρ, A, (Kg.bind k).mono fun x ρ1 G1 H1 n k1 => by
  cases x with
  | false => rw [if_neg Bool.false_ne_true]; exact ⟨G1, ρ1, n.abs, k1⟩
  | true => rw [if_pos rfl]; exact k1 G1 H1 (Nx.refl n.abs)⟩
theorem rb_w (h : RW D W X a t) : RB D W X a t := h.pt
/-! ### .. as values -/
def andV (m1 m2 : EM PV) : EM PV := fun ρ => (m1 ρ).bind fun x ρ => (lift (pyTruth x) ρ).bind fun k ρ => match k with
  | true => m2 ρ
  | false => .ok x ρ
def orV (m1 m2 : EM PV) : EM PV := fun ρ => (m1 ρ).bind fun x ρ => (lift (pyTruth x) ρ).bind fun k ρ => match k with
  | true => .ok x ρ
  | false => m2 ρ
def notV (t : EM Bool) : EM PV := fun ρ => (t ρ).bind fun k ρ => .ok (.bl (!k)) ρ
/-- a test's answer as a value (for BoolOp over flags) -/
theorem truV_rep {G H : Hp} {x : PV} {v : V} {k : Bool} (l : LeG G H) (r : Rep D G x v) (e : pyTruth x = some k) (nd : ∀ kvs, x ≠ .dct kvs) : TruV D.K v H k := by
  have h := truth_rep (Q := fun b _ => b = k) l (r.toH l) e rfl
  rcases h with ⟨k', h, rfl⟩ | ⟨a, kvs, rfl, hd, _⟩
  · exact h
  · cases x with
    | non => cases r
    | bl b => cases r
    | int i => cases r
    | str s => cases r
    | lst xs =>
      obtain ⟨a', vs, e', s, rs⟩ := r
      cases e'; cases e
      exact .inl ⟨vs, sqL_mono l s, by rw [isEmpty_reps rs]⟩
    | tup xs =>
      obtain ⟨a', vs, e', s, rs⟩ := r
      cases e'; cases e
      exact .inr (.inl ⟨vs, sqT_mono l s, by rw [isEmpty_reps rs]⟩)
    | dct xs => exact absurd rfl (nd xs)
    | obj c fs => cases e
def noD : PV → Bool
  | .dct _ => false
  | _ => true
def andV' (m1 m2 : EM PV) : EM PV := fun ρ => (m1 ρ).bind fun x ρ => if noD x then (lift (pyTruth x) ρ).bind fun k ρ => (match k with
  | true => m2 ρ
  | false => .ok x ρ) else .stuck
def orV' (m1 m2 : EM PV) : EM PV := fun ρ => (m1 ρ).bind fun x ρ => if noD x then (lift (pyTruth x) ρ).bind fun k ρ => (match k with
  | true => .ok x ρ
  | false => m2 ρ) else .stuck
theorem noD_of {x : PV} (h : noD x = true) : ∀ kvs, x ≠ .dct kvs := by
  intro kvs e; subst e; cases h
theorem re_and (h : RE D W X a m1) (k : RE D W X (.BoolOp .And (b :: rest) pos) m2) (hK : D.K = X.K) : RE D W X (.BoolOp .And (a :: b :: rest) pos) (andV' m1 m2) := (pe_andT h k).imp fun σ H Q ⟨G, ρ, A, k⟩ => ⟨G, ρ, A, (Kg.bind k).mono fun x ρ1 G1 H1 n k1 v r => by
  split at k1
  · rename_i nd
    obtain ⟨z, e, f⟩ := Kg.lift n.abs (Kg.bind k1)
    have k2 := f G1 H1 (Grow.refl n.abs.le)
    refine ⟨z, hK ▸ truV_rep n.abs.le r e (noD_of nd), ?_⟩
    cases z with
    | true => rw [if_pos rfl]; exact ⟨G1, ρ1, n.abs, k2⟩
    | false => rw [if_neg Bool.false_ne_true]; exact k2 G1 H1 (Nx.refl n.abs) v r
  · exact False.elim k1⟩
theorem re_or (h : RE D W X a m1) (k : RE D W X (.BoolOp .Or (b :: rest) pos) m2) (hK : D.K = X.K) : RE D W X (.BoolOp .Or (a :: b :: rest) pos) (orV' m1 m2) := (pe_orT h k).imp fun σ H Q ⟨G, ρ, A, k⟩ => ⟨G, ρ, A, (Kg.bind k).mono fun x ρ1 G1 H1 n k1 v r => by
  split at k1
  · rename_i nd
    obtain ⟨z, e, f⟩ := Kg.lift n.abs (Kg.bind k1)
    have k2 := f G1 H1 (Grow.refl n.abs.le)
    refine ⟨z, hK ▸ truV_rep n.abs.le r e (noD_of nd), ?_⟩
    cases z with
    | false => rw [if_neg Bool.false_ne_true]; exact ⟨G1, ρ1, n.abs, k2⟩
    | true => rw [if_pos rfl]; exact k2 G1 H1 (Nx.refl n.abs) v r
  · exact False.elim k1⟩
theorem re_one {op : BoolOp} (h : RE D W X a m) : RE D W X (.BoolOp op [a] pos) m := pe_one h
end
end TR

set_option Elab.async false
set_option linter.all false
set_option maxRecDepth 100000
/-! TRE: not, -, conditional, in, subscripts, slices. -/
namespace TR
open PySem PySem.Spec L2
set_option autoImplicit false
section
variable {D : Wd} {W : WX} {X : Cx} {a b c e : Expr} {pos p2 : Pos} {m m1 m2 m3 : EM PV} {t : EM Bool}

/-! ### one operand -/
def pyNot (x : PV) : Option PV := if noD x then (pyTruth x).map fun k => .bl (!k) else none
def pyNeg : PV → Option PV
  | .int i => some (.int (-i))
  | _ => none
def un (g : PV → Option PV) (m : EM PV) : EM PV := fun ρ => (m ρ).bind fun x ρ => lift (g x) ρ
theorem re_notV (h : RE D W X a m) (hK : D.K = X.K) : RE D W X (.UnaryOp .Not a pos) (un pyNot m) := (pe_notT h).imp fun σ H Q ⟨G, ρ, A, k⟩ => ⟨G, ρ, A, (Kg.bind k).mono fun x ρ1 G1 H1 n k1 v r => by
  obtain ⟨z, e, f⟩ := Kg.lift n.abs k1
  unfold pyNot at e
  split at e
  · rename_i nd
    cases h : pyTruth x with
    | none => rw [h] at e; cases e
    | some q =>
      rw [h] at e; cases e
      exact ⟨q, hK ▸ truV_rep n.abs.le r h (noD_of nd), f G1 H1 (Grow.refl n.abs.le) _ rfl⟩
  · cases e⟩
theorem re_neg (h : RE D W X a m) : RE D W X (.UnaryOp .USub a pos) (un pyNeg m) := (pe_un un_neg h).imp fun σ H Q ⟨G, ρ, A, k⟩ => ⟨G, ρ, A, (Kg.bind k).mono fun x ρ1 G1 H1 n k1 v r => by
  obtain ⟨z, e, f⟩ := Kg.lift n.abs k1
  unfold pyNeg at e
  split at e
  · cases e; cases r
    exact ⟨_, rfl, f G1 H1 (Grow.refl n.abs.le) _ rfl⟩
  · cases e⟩
def iteM {α : Type} (t : EM Bool) (m1 m2 : EM α) : EM α := fun ρ => (t ρ).bind fun k ρ => match k with
  | true => m1 ρ
  | false => m2 ρ
theorem re_if (hc : RB D W X c t) (ha : RE D W X a m1) (hb : RE D W X b m2) : RE D W X (.IfExp c a b pos) (iteM t m1 m2) := (pe_ifExp hc ha hb).imp fun σ H Q ⟨G, ρ, A, k⟩ => ⟨G, ρ, A, (Kg.bind k).mono fun x ρ1 G1 H1 n k1 => by
  cases x with
  | true => rw [if_pos rfl]; exact ⟨G1, ρ1, n.abs, k1⟩
  | false => rw [if_neg Bool.false_ne_true]; exact ⟨G1, ρ1, n.abs, k1⟩⟩

/-! ### keys of dicts -/
def keyOf : PV → Option Key
  | .int i => some (.inl i)
  | .str s => some (.inr s)
  | _ => none
def dget (kvs : List (Key × PV)) (k : Key) : Option PV := (kvs.find? fun kv => decide (kv.1 = k)).map (·.2)
theorem dget_nil (k : Key) : dget [] k = none := rfl
theorem dget_cons (p : Key × PV) (r : List (Key × PV)) (k : Key) : dget (p :: r) k = if p.1 = k then some p.2 else dget r k := by
  unfold dget
  rw [List.find?_cons]
  by_cases h : p.1 = k <;> simp [h]
theorem repd_val {G : Hp} {k : Key} : ∀ {kvs : List (Key × PV)} {ws : List (Key × V)}, RepD D G kvs ws → (∀ x, dget kvs k = some x → ∃ v, valV ws k = some v ∧ Rep D G x v) ∧ (dget kvs k = none → valV ws k = none)
  | [], _, r => by
    rw [show _ = [] from r]
    exact ⟨fun x e => (by cases e), fun _ => rfl⟩
  | (j, y) :: kvs, _, r => by
    obtain ⟨v, ws, rfl, r1, r2⟩ := r
    have ih := repd_val (k := k) r2
    rw [dget_cons]
    by_cases h : j = k
    · rw [if_pos h, valV_pos (p := (j, v)) h]
      exact ⟨fun x e => (by cases e; exact ⟨v, rfl, r1⟩), fun e => (by cases e)⟩
    · rw [if_neg h, valV_neg (p := (j, v)) h]
      exact ih
theorem key_rep {G H : Hp} {x : PV} {v : V} {k : Key} (e : keyOf x = some k) (r : RepH D G H x v) : v = kV k := by
  unfold keyOf at e
  split at e
  · cases e; cases r; rfl
  · cases e; cases r; rfl
  · cases e

/-! ### in, not in -/
def inQ : PV → PV → Option Bool
  | x, .lst ys => match x.dat, (PV.lst ys).dat with
    | some d, some (.list ds) => some (ds.any fun z => PyData.eqv z d)
    | _, _ => none
  | x, .tup ys => match x.dat, (PV.tup ys).dat with
    | some d, some (.tuple ds) => some (ds.any fun z => PyData.eqv z d)
    | _, _ => none
  | .str x, .str y => match x.cps.toList with
    | [c] => some (decide (c ∈ y.cps.toList))
    | _ => none
  | x, .dct kvs => match keyOf x with
    | some k => some (dget kvs k).isSome
    | none => none
  | _, _ => none
def pyIn (x y : PV) : Option PV := (inQ x y).map .bl
def pyNotIn (x y : PV) : Option PV := (inQ x y).map fun b => .bl (!b)
def rInT (K : PySem.W.Frag) : R2 := fun x y H Q => ∃ d ds, Dp K H x d ∧ Dp K H y (.tuple ds) ∧ SeqAt.shaped d = true ∧ SeqAt.shaped (.tuple ds) = true ∧ Q (.bl (ds.any fun z => PyData.eqv z d)) H
def rNotInT (K : PySem.W.Frag) : R2 := fun x y H Q => ∃ d ds, Dp K H x d ∧ Dp K H y (.tuple ds) ∧ SeqAt.shaped d = true ∧ SeqAt.shaped (.tuple ds) = true ∧ Q (.bl (!ds.any fun z => PyData.eqv z d)) H
theorem room_in_shaped' {A : Around} {d : PyData} {ds : List PyData} (h : SeqAt.shaped d = true) (hu : A.units + 65 < cLine) : A.units + 1 + min (PyData.depthAll ds) d.depth < cLine := by
  have h1 := SeqAt.depth_of_shaped h
  have h2 : min (PyData.depthAll ds) d.depth ≤ d.depth := Nat.min_le_right _ _
  omega
theorem lay_tuple {ds : List PyData} (h : SeqAt.shaped (.tuple ds) = true) : PyData.canLayAll0 ds = true := SeqAt.canLay_of_shaped h
theorem op_inT (hu : X.A.units + 65 < cLine) : OpR X (compareOp .In) (rInT X.K) := by
  intro pins s σ H x y v u Q I rx ry h
  obtain ⟨d, ds, hd, he, sd, se, q⟩ := h
  obtain ⟨as, r1⟩ := Dp.reads I d x v hd rx
  obtain ⟨bs, r2⟩ := Dp.reads I (.tuple ds) y u he ry
  exact SeqAt.in_tuple_reads r2 r1 (lay_tuple se) (SeqAt.canLay_of_shaped sd) (room_in_shaped' sd hu) ⟨.bl _, H, I, rfl, q⟩
theorem op_notInT (hu : X.A.units + 65 < cLine) : OpR X (compareOp .NotIn) (rNotInT X.K) := by
  intro pins s σ H x y v u Q I rx ry h
  obtain ⟨d, ds, hd, he, sd, se, q⟩ := h
  obtain ⟨as, r1⟩ := Dp.reads I d x v hd rx
  obtain ⟨bs, r2⟩ := Dp.reads I (.tuple ds) y u he ry
  exact SeqAt.notIn_tuple_reads r2 r1 (lay_tuple se) (SeqAt.canLay_of_shaped sd) (room_in_shaped' sd hu) ⟨.bl _, H, I, rfl, q⟩
def rInDi (n : Bool) : R2 := fun x y H Q => ∃ a o, y = .ref a ∧ DGet H a x o ∧ Q (.bl (if n then !o.isSome else o.isSome)) H
theorem op_inDi (hu : X.A.units + 1 < cLine) : OpR X (compareOp .In) (rInDi false) := by
  intro pins s σ H x y v u Q I rx ry h
  obtain ⟨a, o, rfl, g, q⟩ := h
  cases ry
  exact d_in hu I g rx fun s3 I3 => ⟨.bl o.isSome, H, I3, rfl, q⟩
theorem op_notInDi (hu : X.A.units + 1 < cLine) : OpR X (compareOp .NotIn) (rInDi true) := by
  intro pins s σ H x y v u Q I rx ry h
  obtain ⟨a, o, rfl, g, q⟩ := h
  cases ry
  exact d_notIn hu I g rx fun s3 I3 => ⟨.bl (!o.isSome), H, I3, rfl, q⟩
def rInP (K : PySem.W.Frag) : R2 := fun x y H Q => rInD K x y H Q ∨ rInT K x y H Q ∨ (∃ (c : Nat) (z : Str), x = .str ⟨#[c]⟩ ∧ y = .str z ∧ Q (.bl (decide (c ∈ z.cps.toList))) H) ∨ rInDi false x y H Q
def rNotInP (K : PySem.W.Frag) : R2 := fun x y H Q => rNotInD K x y H Q ∨ rNotInT K x y H Q ∨ (∃ (c : Nat) (z : Str), x = .str ⟨#[c]⟩ ∧ y = .str z ∧ Q (.bl (!decide (c ∈ z.cps.toList))) H) ∨ rInDi true x y H Q
theorem op_inP (hu : X.A.units + 65 < cLine) : OpR X (compareOp .In) (rInP X.K) := (op_inD hu).or ((op_inT hu).or (op_in_sign.or (op_inDi (by omega))))
theorem op_notInP (hu : X.A.units + 65 < cLine) : OpR X (compareOp .NotIn) (rNotInP X.K) := (op_notInD hu).or ((op_notInT hu).or (op_notIn_sign.or (op_notInDi (by omega))))
theorem one_sign {x : Str} {c : Nat} (h : x.cps.toList = [c]) : x = ⟨#[c]⟩ := by
  obtain ⟨⟨l⟩⟩ := x
  have : l = [c] := h
  subst this
  rfl
theorem inQ_rep {G H : Hp} {x y : PV} {v w : V} {b : Bool} (l : LeG G H) (rx : RepH D G H x v) (ry : RepH D G H y w) (e : inQ x y = some b) :
    (∃ d ds, Dp D.K H v d ∧ Dp D.K H w (.list ds) ∧ SeqAt.shaped d = true ∧ SeqAt.shaped (.list ds) = true ∧ b = ds.any fun z => PyData.eqv z d) ∨
    (∃ d ds, Dp D.K H v d ∧ Dp D.K H w (.tuple ds) ∧ SeqAt.shaped d = true ∧ SeqAt.shaped (.tuple ds) = true ∧ b = ds.any fun z => PyData.eqv z d) ∨
    (∃ (c : Nat) (z : Str), v = .str ⟨#[c]⟩ ∧ w = .str z ∧ b = decide (c ∈ z.cps.toList)) ∨
    ∃ a o, w = .ref a ∧ DGet H a v o ∧ b = o.isSome := by
  unfold inQ at e
  split at e
  · split at e
    · rename_i d ds h1 h2
      cases e
      exact .inl ⟨d, ds, dpH_of l (PV.dat_of h1).1 rx, dpH_of l (PV.dat_of h2).1 ry, (PV.dat_of h1).2, (PV.dat_of h2).2, rfl⟩
    · cases e
  · split at e
    · rename_i d ds h1 h2
      cases e
      exact .inr (.inl ⟨d, ds, dpH_of l (PV.dat_of h1).1 rx, dpH_of l (PV.dat_of h2).1 ry, (PV.dat_of h1).2, (PV.dat_of h2).2, rfl⟩)
    · cases e
  · split at e
    · rename_i c h
      cases e; cases rx; cases ry
      exact .inr (.inr (.inl ⟨c, _, by rw [one_sign h], rfl, rfl⟩))
    · cases e
  · split at e
    · rename_i k h
      cases e
      obtain ⟨a, ws, rfl, hd, rs⟩ := ry
      have hv := key_rep h rx
      subst hv
      obtain ⟨h1, h2⟩ := repd_val (k := k) rs
      refine .inr (.inr (.inr ⟨a, valV ws k, rfl, .inl ⟨ws, k, hd, rfl, rfl⟩, ?_⟩))
      cases q : dget _ k with
      | none => rw [h2 q]; rfl
      | some z => obtain ⟨u, hu, _⟩ := h1 z q; rw [hu]; rfl
    · cases e
  · cases e
theorem sn_in : Sn2 D (rInP D.K) pyIn := by
  intro G H x y z v w Q l rx ry e q
  unfold pyIn at e
  cases h : inQ x y with
  | none => rw [h] at e; cases e
  | some b =>
    rw [h] at e; cases e
    have q' := flat2 (D := D) (z := .bl b) (v := .bl b) l rfl q
    rcases inQ_rep l rx ry h with ⟨d, ds, h1, h2, h3, h4, rfl⟩ | ⟨d, ds, h1, h2, h3, h4, rfl⟩ | ⟨c, s, h1, h2, rfl⟩ | ⟨a, o, h1, h2, rfl⟩
    · exact .inl ⟨d, ds, h1, h2, h3, h4, q'⟩
    · exact .inr (.inl ⟨d, ds, h1, h2, h3, h4, q'⟩)
    · exact .inr (.inr (.inl ⟨c, s, h1, h2, q'⟩))
    · exact .inr (.inr (.inr ⟨a, o, h1, h2, q'⟩))
theorem sn_notIn : Sn2 D (rNotInP D.K) pyNotIn := by
  intro G H x y z v w Q l rx ry e q
  unfold pyNotIn at e
  cases h : inQ x y with
  | none => rw [h] at e; cases e
  | some b =>
    rw [h] at e; cases e
    have q' := flat2 (D := D) (z := .bl (!b)) (v := .bl (!b)) l rfl q
    rcases inQ_rep l rx ry h with ⟨d, ds, h1, h2, h3, h4, rfl⟩ | ⟨d, ds, h1, h2, h3, h4, rfl⟩ | ⟨c, s, h1, h2, rfl⟩ | ⟨a, o, h1, h2, rfl⟩
    · exact .inl ⟨d, ds, h1, h2, h3, h4, q'⟩
    · exact .inr (.inl ⟨d, ds, h1, h2, h3, h4, q'⟩)
    · exact .inr (.inr (.inl ⟨c, s, h1, h2, q'⟩))
    · exact .inr (.inr (.inr ⟨a, o, h1, h2, q'⟩))

/-! ### a[b] -/
def pyIx : PV → PV → Option PV
  | .lst xs, .int i => atI xs i
  | .tup xs, .int i => atI xs i
  | .str s, .int i => if s.length ≤ sizeLine then (atI s.cps.toList i).map fun c => .str ⟨#[c]⟩ else none
  | .dct kvs, k => match keyOf k with
    | some k => dget kvs k
    | none => none
  | _, _ => none
def rIxD : R2 := fun x y H Q => ∃ a v, x = .ref a ∧ DGet H a y (some v) ∧ Q v H
theorem ix_dict (hu : X.A.units + 1 < cLine) : IxR X rIxD := by
  intro value slice pins s σ H x y v u Q I rx ry h hs
  obtain ⟨a, w, rfl, g, q⟩ := h
  cases rx
  exact PyProof.Rows.tail_any (dict_typeIs I g) PySem.F.slot_dict_getitem.lookup (d_getItem hu I g ry fun w' s3 I3 rw' => ⟨w, H, I3, rw', q⟩) hs
def rIxP (K : PySem.W.Frag) : R2 := fun x y H Q => rIx K x y H Q ∨ rIxD x y H Q
theorem ix_all (hu : X.A.units + 1 < cLine) : IxR X (rIxP X.K) := ix_seq.or (ix_dict hu)
theorem reps_atI {G : Hp} {xs : List PV} {vs : List V} {i : Int} {x : PV} (r : Reps D G xs vs) (e : atI xs i = some x) : ∃ v, atI vs i = some v ∧ Rep D G x v := by
  unfold atI at e ⊢
  rw [r.length]
  cases h : ixN xs.length i with
  | none => rw [h] at e; cases e
  | some j =>
    rw [h] at e
    obtain ⟨v, h1, h2⟩ := r.get e
    exact ⟨v, h1, h2⟩
theorem sn_ix : Sn2 D (rIxP D.K) pyIx := by
  intro G H x y z v w Q l rx ry e q
  unfold pyIx at e
  split at e
  · cases ry
    obtain ⟨a, vs, rfl, s, rs⟩ := rx
    obtain ⟨u, h1, h2⟩ := reps_atI rs e
    exact .inl (.inl ⟨a, vs, _, u, rfl, rfl, s, h1, flat2 l h2 q⟩)
  · cases ry
    obtain ⟨a, vs, rfl, s, rs⟩ := rx.tup l
    obtain ⟨u, h1, h2⟩ := reps_atI rs e
    exact .inl (.inr (.inl ⟨a, vs, _, u, rfl, rfl, s, h1, flat2 l h2 q⟩))
  · cases rx; cases ry
    split at e
    · rename_i hz
      cases h : atI _ _ with
      | none => rw [h] at e; cases e
      | some c => rw [h] at e; cases e; exact .inl (.inr (.inr ⟨_, _, c, rfl, rfl, hz, h, flat2 l (z := .str _) rfl q⟩))
    · cases e
  · split at e
    · rename_i k h
      obtain ⟨a, ws, rfl, hd, rs⟩ := rx
      have hv := key_rep h ry
      subst hv
      obtain ⟨u, h1, h2⟩ := (repd_val (k := k) rs).1 z e
      exact .inr ⟨a, u, rfl, .inl ⟨ws, k, hd, rfl, h1.symm⟩, flat2 l h2 q⟩
    · cases e
  · cases e
theorem re_ix (hu : X.A.units + 1 < cLine) (hK : D.K = X.K) (ha : RE D W X a m1) (hb : RP D W X b m2) (hs : PlainIx b := by exact fun _ _ => rfl) : RE D W X (.Subscript a b pos) (bin pyIx m1 m2) :=
  (pe_ix (ix_all hu) ha hb hs).imp (bin_le (hK ▸ sn_ix))
theorem re_ixN {i : Nat} (hu : X.A.units + 1 < cLine) (hK : D.K = X.K) (ha : PE X a (tVar i)) (hb : RP D W X b m2) (hs : PlainIx b := by exact fun _ _ => rfl) : RE D W X (.Subscript a b pos) (binN pyIx i m2) :=
  (pe_ix (ix_all hu) ha hb hs).imp (binN_le (hK ▸ sn_ix))

/-! ### a[lo:hi] -/
def cutP {α : Type} (xs : List α) (lo hi : Option Int) : List α := (xs.drop (HT.sIx xs.length 0 lo)).take (HT.sIx xs.length xs.length hi - HT.sIx xs.length 0 lo)
def pySl (x : PV) (lo hi : Option Int) : Option PV := match x with
  | .lst xs => some (.lst (cutP xs lo hi))
  | .tup xs => some (.tup (cutP xs lo hi))
  | .str s => if s.length ≤ sizeLine then some (.str (cutS s lo hi)) else none
  | _ => none
theorem reps_cut {G : Hp} {xs : List PV} {vs : List V} (r : Reps D G xs vs) (lo hi : Option Int) : Reps D G (cutP xs lo hi) (cutV vs lo hi) := by
  unfold cutP cutV
  rw [r.length]
  exact (r.drop _).take _
def rSlP (K : PySem.W.Frag) : V → Option Int → Option Int → Hp → VK → Prop := fun x lo hi H Q => rSlL K x lo hi H Q ∨ rSlA K x lo hi H Q ∨ rSlS x lo hi H Q
theorem sl_all : SlR X (rSlP X.K) := sl_list.or (sl_tupA.or sl_str)
theorem cut_whole {xs : List PV} {lo hi : Option Int} (h : HT.sIx xs.length 0 lo = 0 ∧ HT.sIx xs.length xs.length hi = xs.length) : cutP xs lo hi = xs := by
  unfold cutP
  rw [h.1, h.2]
  simp
theorem sn_sl {G H : Hp} {x z : PV} {v : V} {lo hi : Option Int} {Q : VK} (l : LeG G H) (rx : RepH D G H x v) (e : pySl x lo hi = some z) (q : ∀ G' H' v', Grow G H G' H' → Rep D G' z v' → Q v' H') : rSlP D.K v lo hi H Q := by
  unfold pySl at e
  split at e
  · cases e
    obtain ⟨a, vs, rfl, s, rs⟩ := rx
    exact .inl ⟨a, vs, rfl, s, new2 (D := D) (z := .lst _) l (fun p lg => ⟨p, cutV vs lo hi, rfl, .inl (.inl upd_same), (reps_cut rs lo hi).mono lg⟩) q⟩
  · cases e
    obtain ⟨a, vs, rfl, s, rs⟩ := rx.tup l
    refine .inr (.inl ⟨a, vs, rfl, s, fun h => ?_, fun _ => new2 (D := D) (z := .tup _) l (fun p lg => ⟨p, cutV vs lo hi, rfl, .inl (.inl upd_same), (reps_cut rs lo hi).mono lg⟩) q⟩)
    rw [rs.length] at h
    rw [cut_whole h] at q
    exact flat2 l rx q
  · split at e
    · rename_i hz
      cases e; cases rx
      exact .inr (.inr ⟨_, rfl, hz, flat2 l (z := .str _) rfl q⟩)
    · cases e
  · cases e
/-- a part of a slice -/
def tO (D : Wd) (W : WX) (m : EM (Option Int)) : TO := fun σ H Q => ∃ G ρ, Abs D G H σ ρ ∧ Kg D W (m ρ) G H σ ρ fun x _ _ H' => Q x H'
def RO (D : Wd) (W : WX) (X : Cx) (e : Option Expr) (m : EM (Option Int)) : Prop := PO X e (tO D W m)
def noP : EM (Option Int) := fun ρ => .ok none ρ
def someP (m : EM PV) : EM (Option Int) := fun ρ => (m ρ).bind fun x ρ => match x with
  | .int i => .ok (some i) ρ
  | _ => .stuck
theorem ro_none : RO D W X none noP := ⟨fun pins s σ H Q I ⟨G, ρ, A, k⟩ => po_none.run pins s σ H Q I (k G H (Nx.refl A))⟩
theorem ro_some (h : RE D W X e m) : RO D W X (some e) (someP m) := ⟨fun pins s σ H Q I ⟨G, ρ, A, k⟩ => (po_some h).run pins s σ H Q I ⟨G, ρ, A, (Kg.bind k).mono fun x ρ1 G1 H1 n k1 v r => by
  cases x with
  | int i => cases r; exact ⟨i, rfl, k1 G1 H1 (Nx.refl n.abs)⟩
  | _ => exact False.elim k1⟩⟩
def slM (m1 : EM PV) (lo hi : EM (Option Int)) : EM PV := fun ρ => (m1 ρ).bind fun x ρ => (lo ρ).bind fun l ρ => (hi ρ).bind fun h ρ => lift (pySl x l h) ρ
def slN (i : Nat) (lo hi : EM (Option Int)) : EM PV := fun ρ => (peek i ρ).bind fun _ ρ => (lo ρ).bind fun l ρ => (hi ρ).bind fun h ρ => (peek i ρ).bind fun x ρ => lift (pySl x l h) ρ
theorem re_sl {lo hi : Option Expr} {l h : EM (Option Int)} (hK : D.K = X.K) (ha : RE D W X a m1) (hl : RO D W X lo l) (hh : RO D W X hi h) : RE D W X (.Subscript a (.Slice lo hi none p2) pos) (slM m1 l h) :=
  (pe_slice sl_all ha hl hh).imp fun σ H Q ⟨G, ρ, A, k⟩ => ⟨G, ρ, A, (Kg.bind k).mono fun x ρ1 G1 H1 n1 k1 v rv => ⟨G1, ρ1, n1.abs, (Kg.bind k1).mono fun l ρ2 G2 H2 n2 k2 => ⟨G2, ρ2, n2.abs, (Kg.bind k2).mono fun h ρ3 G3 H3 n3 k3 => by
    obtain ⟨z, e, f⟩ := Kg.lift n3.abs k3
    rw [← hK]
    exact sn_sl n3.abs.le (((rv.mono n2.leg).mono n3.leg).toH n3.abs.le) e fun G' H' v' g' r' => f G' H' g' v' r'⟩⟩⟩
theorem re_slN {i : Nat} {lo hi : Option Expr} {l h : EM (Option Int)} (hK : D.K = X.K) (ha : PE X a (tVar i)) (hl : RO D W X lo l) (hh : RO D W X hi h) : RE D W X (.Subscript a (.Slice lo hi none p2) pos) (slN i l h) :=
  (pe_slice sl_all ha hl hh).imp fun σ H Q ⟨G, ρ, A, k⟩ => by
    obtain ⟨x0, v, ev, r0, k0⟩ := peek_ok A (Kg.bind k)
    exact ⟨v, ev, G, ρ, A, (Kg.bind k0).mono fun l ρ2 G2 H2 n2 k2 => ⟨G2, ρ2, n2.abs, (Kg.bind k2).mono fun h ρ3 G3 H3 n3 k3 => by
      obtain ⟨x, v', ev', rv, k4⟩ := peek_ok n3.abs (Kg.bind k3)
      rw [ev] at ev'; cases ev'
      obtain ⟨z, e, f⟩ := Kg.lift n3.abs k4
      rw [← hK]
      exact sn_sl n3.abs.le rv e fun G' H' v' g' r' => f G' H' g' v' r'⟩⟩
end
end TR

set_option Elab.async false
set_option linter.all false
set_option maxRecDepth 100000
/-! TRF: arguments, calls of built-ins, defs and their calls. -/
namespace TR
open PySem PySem.Spec L2
set_option autoImplicit false

/-- an argument: a value, or what stands in a slot -/
inductive AV where
  | v (x : PV) | s (i : Nat)
def AVs (D : Wd) (G : Hp) (σ : St) : List AV → List V → Prop
  | [], vs => vs = []
  | .v x :: r, vs => ∃ v ws, vs = v :: ws ∧ Rep D G x v ∧ AVs D G σ r ws
  | .s i :: r, vs => ∃ v ws, vs = v :: ws ∧ σ[i]? = some (some v) ∧ AVs D G σ r ws
def RepHs (D : Wd) (G H : Hp) : List PV → List V → Prop
  | [], vs => vs = []
  | x :: r, vs => ∃ v ws, vs = v :: ws ∧ RepH D G H x v ∧ RepHs D G H r ws
theorem AVs.mono {D : Wd} {G G' : Hp} {σ : St} (l : LeG G G') : ∀ {as : List AV} {vs : List V}, AVs D G σ as vs → AVs D G' σ as vs
  | [], _, h => h
  | .v x :: r, _, h => by obtain ⟨v, ws, e, h1, h2⟩ := h; exact ⟨v, ws, e, h1.mono l, AVs.mono l h2⟩
  | .s i :: r, _, h => by obtain ⟨v, ws, e, h1, h2⟩ := h; exact ⟨v, ws, e, h1, AVs.mono l h2⟩
def derefs : List AV → Ev → Option (List PV)
  | [], _ => some []
  | .v x :: r, ρ => (derefs r ρ).map (x :: ·)
  | .s i :: r, ρ => match ρ[i]? with
    | some s => match s.peek, derefs r ρ with
      | some x, some xs => some (x :: xs)
      | _, _ => none
    | none => none
theorem derefs_rep {D : Wd} {G H : Hp} {σ : St} {ρ : Ev} (A : Abs D G H σ ρ) : ∀ {as : List AV} {vs : List V} {xs : List PV}, AVs D G σ as vs → derefs as ρ = some xs → RepHs D G H xs vs
  | [], _, _, h, e => by cases e; exact h
  | .v x :: r, _, _, h, e => by
    obtain ⟨v, ws, rfl, h1, h2⟩ := h
    rw [derefs] at e
    cases q : derefs r ρ with
    | none => rw [q] at e; cases e
    | some xs => rw [q] at e; cases e; exact ⟨v, ws, rfl, h1.toH A.le, derefs_rep A h2 q⟩
  | .s i :: r, _, _, h, e => by
    obtain ⟨v, ws, rfl, h1, h2⟩ := h
    rw [derefs] at e
    cases p : ρ[i]? with
    | none => rw [p] at e; cases e
    | some s =>
      rw [p] at e
      cases p2 : s.peek with
      | none => simp only [p2] at e; cases e
      | some x =>
        cases q : derefs r ρ with
        | none => simp only [p2, q] at e; cases e
        | some xs =>
          simp only [p2, q] at e; cases e
          obtain ⟨v', e', r'⟩ := peek_rep A p p2
          rw [h1] at e'; cases e'
          exact ⟨v, ws, rfl, r', derefs_rep A h2 q⟩

section
variable {D : Wd} {W : WX} {X : Cx} {a b c e : Expr} {es : List Expr} {pos p2 p : Pos} {m m1 m2 : EM PV} {ms : EM (List AV)}
def tA (D : Wd) (W : WX) (m : EM (List AV)) : TA := fun σ H Q => ∃ G ρ, Abs D G H σ ρ ∧ Kg D W (m ρ) G H σ ρ fun as ρ' G' H' => ∀ vs, AVs D G' σ as vs → Q vs H'
abbrev RA (D : Wd) (W : WX) (X : Cx) (es : List Expr) (m : EM (List AV)) : Prop := PA X es (tA D W m)
def argNil : EM (List AV) := fun ρ => .ok [] ρ
def argV (m : EM PV) (ms : EM (List AV)) : EM (List AV) := fun ρ => (m ρ).bind fun x ρ => (ms ρ).bind fun as ρ => .ok (.v x :: as) ρ
def argN (i : Nat) (ms : EM (List AV)) : EM (List AV) := fun ρ => (peek i ρ).bind fun _ ρ => (ms ρ).bind fun as ρ => .ok (.s i :: as) ρ
theorem ra_nil : RA D W X [] argNil := pa_nil.imp fun σ H Q ⟨G, ρ, A, k⟩ => k G H (Nx.refl A) [] rfl
theorem ra_v (h : RE D W X e m) (r : RA D W X es ms) (hs : starEach (e :: es) X.env = (false, eval e X.env) :: starEach es X.env := by rfl) : RA D W X (e :: es) (argV m ms) :=
  (pa_cons h r hs).imp fun σ H Q ⟨G, ρ, A, k⟩ => ⟨G, ρ, A, (Kg.bind k).mono fun x ρ1 G1 H1 n1 k1 v rv => ⟨G1, ρ1, n1.abs, (Kg.bind k1).mono fun as ρ2 G2 H2 n2 k2 vs rs => k2 G2 H2 (Nx.refl n2.abs) (v :: vs) ⟨v, vs, rfl, rv.mono n2.leg, rs⟩⟩⟩
theorem ra_n (i : Nat) (h : PE X e (tVar i)) (r : RA D W X es ms) (hs : starEach (e :: es) X.env = (false, eval e X.env) :: starEach es X.env := by rfl) : RA D W X (e :: es) (argN i ms) :=
  (pa_cons h r hs).imp fun σ H Q ⟨G, ρ, A, k⟩ => by
    obtain ⟨x, v, ev, r0, k0⟩ := peek_ok A (Kg.bind k)
    exact ⟨v, ev, G, ρ, A, (Kg.bind k0).mono fun as ρ2 G2 H2 n2 k2 vs rs => k2 G2 H2 (Nx.refl n2.abs) (v :: vs) ⟨v, vs, rfl, ev, rs⟩⟩

/-! ### calls of built-ins -/
def SnC (D : Wd) (r : List V → Hp → VK → Prop) (g : List PV → Option PV) : Prop := ∀ (G H : Hp) (xs : List PV) (z : PV) (vs : List V) (Q : VK), LeG G H → RepHs D G H xs vs → g xs = some z →
  (∀ G' H' v', Grow G H G' H' → Rep D G' z v' → Q v' H') → r vs H Q
def callB (g : List PV → Option PV) (ms : EM (List AV)) : EM PV := fun ρ => (ms ρ).bind fun as ρ => (lift (derefs as ρ) ρ).bind fun xs ρ => lift (g xs) ρ
theorem callB_le {r : List V → Hp → VK → Prop} {g : List PV → Option PV} (sn : SnC D r g) (σ : St) (H : Hp) (Q : VK) (h : tE D W (callB g ms) σ H Q) : tCB r (tA D W ms) σ H Q := by
  obtain ⟨G, ρ, A, k⟩ := h
  refine ⟨G, ρ, A, (Kg.bind k).mono fun as ρ1 G1 H1 n1 k1 vs rv => ?_⟩
  obtain ⟨xs, e, f⟩ := Kg.lift n1.abs (Kg.bind k1)
  obtain ⟨z, e2, f2⟩ := Kg.lift n1.abs (f G1 H1 (Grow.refl n1.abs.le))
  exact sn G1 H1 xs z vs Q n1.abs.le (derefs_rep n1.abs rv e) e2 fun G' H' v' g' r' => f2 G' H' g' v' r'
theorem re_callB {id : String} {x : Str} {r : List V → Hp → VK → Prop} {g : List PV → Option PV} (hc : CallR X (.builtin id) r) (sn : SnC D r g) (hg : Gl X x) (hm : X.mg x = none) (hv : bootBuiltins x = some (.builtin id)) (ha : RA D W X (e :: es) ms)
    (hn : x ≠ "__name__" := by decide) (hdb : (x == ("__debug__" : Str)) = false := by decide) (he : starEach (e :: es) X.env = (false, eval e X.env) :: starEach es X.env := by rfl) (hpl : (backTo pos (starEach es X.env)).any (·.1) = false := by rfl) :
    RE D W X (.Call (.Name x p) (e :: es) [] pos) (callB g ms) := (pe_callB hc hg hm hv ha hn hdb he hpl).imp (callB_le sn)
theorem re_callTy {T : String} {x : Str} {r : List V → Hp → VK → Prop} {g : List PV → Option PV} (hc : CallR X (.type T) r) (sn : SnC D r g) (hg : Gl X x) (hm : X.mg x = none) (hv : bootBuiltins x = some (.type T)) (ha : RA D W X (e :: es) ms)
    (hn : x ≠ "__name__" := by decide) (hdb : (x == ("__debug__" : Str)) = false := by decide) (he : starEach (e :: es) X.env = (false, eval e X.env) :: starEach es X.env := by rfl) (hpl : (backTo pos (starEach es X.env)).any (·.1) = false := by rfl) :
    RE D W X (.Call (.Name x p) (e :: es) [] pos) (callB g ms) := (pe_callTy hc hg hm hv ha hn hdb he hpl).imp (callB_le sn)

/-! ### defs: their pure meaning -/
inductive Ret where
  | v (x : PV) | o (m : MO)
inductive FOut where
  | ok (r : Ret) (as : List Slot) | exc (e : Ex) (as : List Slot) | stuck
abbrev FM := List Slot → FOut
/-- what a def hands back -/
def RRep (D : Wd) (G H G' H' : Hp) (r : Ret) (v : V) : Prop := match r with
  | .v x => Rep D G' x v
  | .o m => ∃ a, v = .ref a ∧ G' a = none ∧ H a = none ∧ MRep D G' H' a m
def argsOk : List Slot → Bool
  | [] => true
  | .val _ :: r => argsOk r
  | .own true _ :: r => argsOk r
  | _ :: _ => false
/-- the promise: the pure meaning's answer -/
def FSp (D : Wd) (f : FM) : Sp := fun vs H Q E => ∃ G as, argsOk as = true ∧ Abs D G H (vs.map some) as ∧ match f as with
  | .ok r as' => ∀ G' H' v, Nx D G H (vs.map some) as G' H' (vs.map some) as' → RRep D G H G' H' r v → Q v H'
  | .exc e as' => ∀ G' H' c d, Nx D G H (vs.map some) as G' H' (vs.map some) as' → ERep D G' c d e → E c d H'
  | .stuck => False

/-- the slots that a call hands on -/
def mkArgs : List AV → Ev → Option (List Slot)
  | [], _ => some []
  | .v x :: r, ρ => (mkArgs r ρ).map (.val x :: ·)
  | .s i :: r, ρ => match ρ[i]? with
    | some (.val x) => (mkArgs r ρ).map (.val x :: ·)
    | some (.own _ m) => (mkArgs r ρ).map (.own true m :: ·)
    | _ => none
/-- no own object is handed on twice -/
def owns : List AV → Ev → List Nat
  | [], _ => []
  | .v _ :: r, ρ => owns r ρ
  | .s i :: r, ρ => match ρ[i]? with
    | some (.own _ _) => i :: owns r ρ
    | _ => owns r ρ
/-- what the callee has made of the own objects -/
def putBack : List AV → List Slot → Ev → Ev
  | .s i :: r, s :: as, ρ => match ρ[i]?, s with
    | some (.own b _), .own _ m => putBack r as (ρ.set i (.own b m))
    | _, _ => putBack r as ρ
  | _ :: r, _ :: as, ρ => putBack r as ρ
  | _, _, ρ => ρ

theorem putBack_v (x : PV) (r : List AV) (s : Slot) (as : List Slot) (ρ : Ev) : putBack (.v x :: r) (s :: as) ρ = putBack r as ρ := rfl
theorem putBack_s (i : Nat) (r : List AV) (s : Slot) (as : List Slot) (ρ : Ev) : putBack (.s i :: r) (s :: as) ρ = match ρ[i]?, s with
    | some (.own b _), .own _ m => putBack r as (ρ.set i (.own b m))
    | _, _ => putBack r as ρ := rfl
theorem owns_set {ρ : Ev} {j : Nat} {b b' : Bool} {m m' : MO} (h : ρ[j]? = some (.own b m)) : ∀ as : List AV, owns as (ρ.set j (.own b' m')) = owns as ρ
  | [] => rfl
  | .v _ :: r => by rw [owns, owns]; exact owns_set h r
  | .s i :: r => by
    have hj : j < ρ.length := (List.getElem?_eq_some_iff.mp h).1
    rw [owns, owns, owns_set h r]
    by_cases e : i = j
    · subst e
      rw [List.getElem?_set_self hj, h]
    · rw [List.getElem?_set_ne (Ne.symm e)]
theorem putBack_ne {i : Nat} : ∀ (as : List AV) (ss : List Slot) (ρ : Ev), i ∉ owns as ρ → (putBack as ss ρ)[i]? = ρ[i]?
  | [], _, ρ, _ => by simp [putBack]
  | .v x :: r, [], ρ, h => by simp [putBack]
  | .v x :: r, s :: ss, ρ, h => by
    rw [putBack_v]
    exact putBack_ne r ss ρ h
  | .s j :: r, [], ρ, h => by simp [putBack]
  | .s j :: r, s :: ss, ρ, h => by
    rw [owns] at h
    rw [putBack_s]
    split
    · rename_i b m0 b2 m e
      rw [e] at h
      have hij : i ≠ j := fun z => h (by rw [z]; exact List.mem_cons_self)
      rw [putBack_ne r ss _ (by rw [owns_set e]; exact fun z => h (List.mem_cons_of_mem _ z)), List.getElem?_set_ne (Ne.symm hij)]
    · refine putBack_ne r ss ρ fun z => h ?_
      split
      · exact List.mem_cons_of_mem _ z
      · exact z
theorem mem_owns {i : Nat} {b : Bool} {m : MO} {ρ : Ev} (h : ρ[i]? = some (.own b m)) : ∀ {as : List AV} {j : Nat}, as[j]? = some (.s i) → i ∈ owns as ρ
  | [], j, e => by simp at e
  | .v x :: r, 0, e => by simp at e
  | .v x :: r, j + 1, e => by rw [owns]; exact mem_owns h (by simpa using e)
  | .s k :: r, 0, e => by
    simp at e; subst e
    rw [owns, h]
    exact List.mem_cons_self
  | .s k :: r, j + 1, e => by
    have := mem_owns (as := r) (j := j) h (by simpa using e)
    rw [owns]
    split
    · exact List.mem_cons_of_mem _ this
    · exact this
theorem putBack_eq {i : Nat} {b b2 : Bool} {m m' : MO} : ∀ (as : List AV) (ss : List Slot) (ρ : Ev) (j : Nat), (owns as ρ).Nodup → as[j]? = some (.s i) → ρ[i]? = some (.own b m) → ss[j]? = some (.own b2 m') → (putBack as ss ρ)[i]? = some (.own b m')
  | [], _, _, j, _, e, _, _ => by simp at e
  | _ :: _, [], _, j, _, _, _, e => by simp at e
  | .v x :: r, s :: ss, ρ, 0, _, e, _, _ => by simp at e
  | .v x :: r, s :: ss, ρ, j + 1, nd, e, h, e2 => by
    rw [putBack_v]
    exact putBack_eq r ss ρ j nd (by simpa using e) h (by simpa using e2)
  | .s k :: r, s :: ss, ρ, 0, nd, e, h, e2 => by
    simp at e e2; subst e; subst e2
    rw [owns, h] at nd
    have hk := (List.nodup_cons.mp nd).1
    have hl : k < ρ.length := (List.getElem?_eq_some_iff.mp h).1
    rw [putBack_s, h]
    show (putBack r ss (ρ.set k (.own b m')))[k]? = _
    rw [putBack_ne r ss _ (by rw [owns_set h]; exact hk), List.getElem?_set_self hl]
  | .s k :: r, s :: ss, ρ, j + 1, nd, e, h, e2 => by
    have hm : i ∈ owns r ρ := mem_owns h (j := j) (by simpa using e)
    rw [owns] at nd
    rw [putBack_s]
    split
    · rename_i b' m0 b3 m3 ek
      rw [ek] at nd
      obtain ⟨hk, nd'⟩ := List.nodup_cons.mp nd
      have hik : i ≠ k := fun z => hk (z ▸ hm)
      refine putBack_eq r ss _ j (by rw [owns_set ek]; exact nd') (by simpa using e) (m := m) ?_ (by simpa using e2)
      rw [List.getElem?_set_ne (Ne.symm hik)]
      exact h
    · refine putBack_eq r ss ρ j ?_ (by simpa using e) h (by simpa using e2)
      split at nd
      · exact (List.nodup_cons.mp nd).2
      · exact nd
theorem owns_inj {i : Nat} {b : Bool} {m : MO} {ρ : Ev} (h : ρ[i]? = some (.own b m)) : ∀ (as : List AV) (j k : Nat), (owns as ρ).Nodup → as[j]? = some (.s i) → as[k]? = some (.s i) → j = k
  | [], j, _, _, e, _ => by simp at e
  | .v x :: r, 0, _, _, e, _ => by simp at e
  | .v x :: r, j + 1, 0, _, _, e => by simp at e
  | .v x :: r, j + 1, k + 1, nd, e, e2 => by rw [owns_inj h r j k nd (by simpa using e) (by simpa using e2)]
  | .s l :: r, 0, 0, _, _, _ => rfl
  | .s l :: r, 0, k + 1, nd, e, e2 => by
    simp at e; subst e
    rw [owns, h] at nd
    exact absurd (mem_owns h (j := k) (by simpa using e2)) (List.nodup_cons.mp nd).1
  | .s l :: r, j + 1, 0, nd, e, e2 => by
    simp at e2; subst e2
    rw [owns, h] at nd
    exact absurd (mem_owns h (j := j) (by simpa using e)) (List.nodup_cons.mp nd).1
  | .s l :: r, j + 1, k + 1, nd, e, e2 => by
    rw [owns] at nd
    rw [owns_inj h r j k (by
      split at nd
      · exact (List.nodup_cons.mp nd).2
      · exact nd) (by simpa using e) (by simpa using e2)]
/-- what stands at a place of the handed slots -/
theorem mkArgs_get {ρ : Ev} : ∀ {as : List AV} {ss : List Slot}, mkArgs as ρ = some ss → ss.length = as.length ∧ argsOk ss = true ∧ ∀ (j : Nat) (s : Slot), ss[j]? = some s →
    (∃ x, s = .val x ∧ (as[j]? = some (.v x) ∨ ∃ i, as[j]? = some (.s i) ∧ ρ[i]? = some (.val x))) ∨ ∃ i b m, s = .own true m ∧ as[j]? = some (.s i) ∧ ρ[i]? = some (.own b m)
  | [], ss, h => by
    cases h
    exact ⟨rfl, rfl, fun j s e => by simp at e⟩
  | .v x :: r, ss, h => by
    rw [mkArgs] at h
    cases q : mkArgs r ρ with
    | none => rw [q] at h; cases h
    | some ts =>
      rw [q] at h; cases h
      obtain ⟨h1, h2, h3⟩ := mkArgs_get q
      refine ⟨by simp [h1], h2, fun j s e => ?_⟩
      cases j with
      | zero => simp at e; subst e; exact .inl ⟨x, rfl, .inl rfl⟩
      | succ j => exact h3 j s (by simpa using e)
  | .s i :: r, ss, h => by
    rw [mkArgs] at h
    split at h
    · rename_i x e0
      cases q : mkArgs r ρ with
      | none => rw [q] at h; cases h
      | some ts =>
        rw [q] at h; cases h
        obtain ⟨h1, h2, h3⟩ := mkArgs_get q
        refine ⟨by simp [h1], h2, fun j s e => ?_⟩
        cases j with
        | zero => simp at e; subst e; exact .inl ⟨x, rfl, .inr ⟨i, rfl, e0⟩⟩
        | succ j => exact h3 j s (by simpa using e)
    · rename_i b m e0
      cases q : mkArgs r ρ with
      | none => rw [q] at h; cases h
      | some ts =>
        rw [q] at h; cases h
        obtain ⟨h1, h2, h3⟩ := mkArgs_get q
        refine ⟨by simp [h1], h2, fun j s e => ?_⟩
        cases j with
        | zero => simp at e; subst e; exact .inr ⟨i, b, m, rfl, rfl, e0⟩
        | succ j => exact h3 j s (by simpa using e)
    · cases h
theorem AVs.get {D : Wd} {G : Hp} {σ : St} : ∀ {as : List AV} {vs : List V} {j : Nat} {a : AV}, AVs D G σ as vs → as[j]? = some a → ∃ v, vs[j]? = some v ∧ match a with
    | .v x => Rep D G x v
    | .s i => σ[i]? = some (some v)
  | [], _, _, _, _, e => by simp at e
  | .v x :: r, _, 0, _, h, e => by
    simp at e; subst e
    obtain ⟨v, ws, rfl, h1, h2⟩ := h
    exact ⟨v, rfl, h1⟩
  | .s x :: r, _, 0, _, h, e => by
    simp at e; subst e
    obtain ⟨v, ws, rfl, h1, h2⟩ := h
    exact ⟨v, rfl, h1⟩
  | .v x :: r, _, j + 1, _, h, e => by
    obtain ⟨v, ws, rfl, h1, h2⟩ := h
    obtain ⟨u, e1, e2⟩ := AVs.get h2 (by simpa using e)
    exact ⟨u, by simpa using e1, e2⟩
  | .s x :: r, _, j + 1, _, h, e => by
    obtain ⟨v, ws, rfl, h1, h2⟩ := h
    obtain ⟨u, e1, e2⟩ := AVs.get h2 (by simpa using e)
    exact ⟨u, by simpa using e1, e2⟩
theorem AVs.length {D : Wd} {G : Hp} {σ : St} : ∀ {as : List AV} {vs : List V}, AVs D G σ as vs → vs.length = as.length
  | [], _, h => by rw [show _ = [] from h]; rfl
  | .v x :: r, _, h => by obtain ⟨v, ws, rfl, h1, h2⟩ := h; simp [AVs.length h2]
  | .s x :: r, _, h => by obtain ⟨v, ws, rfl, h1, h2⟩ := h; simp [AVs.length h2]
theorem map_some_get {vs : List V} {j : Nat} {v : V} : (vs.map some)[j]? = some (some v) ↔ vs[j]? = some v := by
  rw [List.getElem?_map]
  cases vs[j]? <;> simp

/-- the callee's state -/
theorem abs_args {G H : Hp} {σ : St} {ρ : Ev} {as : List AV} {vs : List V} {ss : List Slot} (A : Abs D G H σ ρ) (r : AVs D G σ as vs) (e : mkArgs as ρ = some ss) (nd : (owns as ρ).Nodup) : Abs D G H (vs.map some) ss := by
  obtain ⟨h1, h2, h3⟩ := mkArgs_get e
  refine ⟨A.le, by rw [List.length_map, r.length, h1], fun j s es => ?_, fun j k b m b' m' a ej ek fj fk => ?_⟩
  · rcases h3 j s es with ⟨x, rfl, h | ⟨i, h, hi⟩⟩ | ⟨i, b, m, rfl, h, hi⟩
    · obtain ⟨v, e1, e2⟩ := r.get h
      exact ⟨v, map_some_get.mpr e1, e2⟩
    · obtain ⟨v, e1, e2⟩ := r.get h
      obtain ⟨v', e3, e4⟩ := A.val hi
      rw [e2] at e3; cases e3
      exact ⟨v, map_some_get.mpr e1, e4⟩
    · obtain ⟨v, e1, e2⟩ := r.get h
      obtain ⟨a, e3, g, q⟩ := A.own hi
      rw [e2] at e3; cases e3
      exact ⟨a, map_some_get.mpr e1, g, q⟩
  · rcases h3 j _ ej with ⟨x, z, _⟩ | ⟨i, b1, m1, z, h, hi⟩
    · cases z
    rcases h3 k _ ek with ⟨x, z', _⟩ | ⟨i', b2, m2, z', h', hi'⟩
    · cases z'
    obtain ⟨v, e1, e2⟩ := r.get h
    obtain ⟨v', e1', e2'⟩ := r.get h'
    rw [map_some_get] at fj fk
    rw [fj] at e1; cases e1
    rw [fk] at e1'; cases e1'
    have := A.inj i i' _ _ _ _ a hi hi' e2 e2'
    subst this
    exact owns_inj hi as j k nd h h'
theorem ow_args {G : Hp} {σ : St} {ρ : Ev} {as : List AV} {vs : List V} {ss : List Slot} (r : AVs D G σ as vs) (e : mkArgs as ρ = some ss) {a : Addr} : Ow (vs.map some) ss a → ∃ (i j : Nat) (b : Bool) (m : MO), as[j]? = some (.s i) ∧ ρ[i]? = some (.own b m) ∧ σ[i]? = some (some (.ref a)) ∧ ss[j]? = some (.own true m) ∧ (vs.map some)[j]? = some (some (.ref a)) := by
  rintro ⟨j, b, m, ej, fj⟩
  obtain ⟨h1, h2, h3⟩ := mkArgs_get e
  rcases h3 j _ ej with ⟨x, z, _⟩ | ⟨i, b1, m1, z, h, hi⟩
  · cases z
  · cases z
    obtain ⟨v, e1, e2⟩ := r.get h
    have fj' := map_some_get.mp fj
    rw [fj'] at e1; cases e1
    exact ⟨i, j, b1, _, h, hi, e2, ej, fj⟩
theorem owF_args {ρ : Ev} {as : List AV} {vs : List V} {ss : List Slot} (e : mkArgs as ρ = some ss) {a : Addr} : ¬ OwF (vs.map some) ss a := by
  rintro ⟨j, m, ej, fj⟩
  obtain ⟨h1, h2, h3⟩ := mkArgs_get e
  rcases h3 j _ ej with ⟨x, z, _⟩ | ⟨i, b1, m1, z, h, hi⟩
  · cases z
  · cases z
/-- behind the call -/
theorem nx_call {G H G' H' : Hp} {σ : St} {ρ : Ev} {as : List AV} {vs : List V} {ss ss' : List Slot} (A : Abs D G H σ ρ) (r : AVs D G σ as vs) (e : mkArgs as ρ = some ss) (nd : (owns as ρ).Nodup)
    (n : Nx D G H (vs.map some) ss G' H' (vs.map some) ss') : Nx D G H σ ρ G' H' σ (putBack as ss' ρ) := by
  -- what stands where
  have own : ∀ (i j : Nat) (b : Bool) (m : MO), as[j]? = some (.s i) → ρ[i]? = some (.own b m) → ∃ m', (putBack as ss' ρ)[i]? = some (.own b m') ∧ ss'[j]? = some (.own true m') := fun i j b m h hi => by
    obtain ⟨h1, h2, h3⟩ := mkArgs_get e
    have hj : j < ss.length := by rw [h1]; exact (List.getElem?_eq_some_iff.mp h).1
    rcases h3 j _ (List.getElem?_eq_getElem hj) with ⟨x, z, h' | ⟨i', h', hi'⟩⟩ | ⟨i', b1, m1, z, h', hi'⟩
    · rw [h] at h'; cases h'
    · rw [h] at h'; cases h'
      rw [hi] at hi'; cases hi'
    · rw [h] at h'; cases h'
      rw [hi] at hi'; cases hi'
      obtain ⟨⟨m', e'⟩, _⟩ := n.br j m (by rw [← z]; exact List.getElem?_eq_getElem hj)
      exact ⟨m', putBack_eq as ss' ρ j nd h hi e', e'⟩
  have cases_ : ∀ i, (i ∈ owns as ρ ∧ ∃ (j : Nat) (b : Bool) (m : MO), as[j]? = some (.s i) ∧ ρ[i]? = some (.own b m)) ∨ (putBack as ss' ρ)[i]? = ρ[i]? := fun i => by
    by_cases hi : i ∈ owns as ρ
    · refine .inl ⟨hi, ?_⟩
      have : ∀ (l : List AV), i ∈ owns l ρ → ∃ (j : Nat) (b : Bool) (m : MO), l[j]? = some (.s i) ∧ ρ[i]? = some (.own b m) := by
        intro l
        induction l with
        | nil => intro h; cases h
        | cons x l ih =>
          intro h
          cases x with
          | v x =>
            obtain ⟨j, b, m, h1, h2⟩ := ih h
            exact ⟨j + 1, b, m, by simpa using h1, h2⟩
          | s k =>
            rw [owns] at h
            split at h
            · rename_i b m ek
              rcases List.mem_cons.mp h with rfl | h
              · exact ⟨0, b, m, rfl, ek⟩
              · obtain ⟨j, b, m, h1, h2⟩ := ih h
                exact ⟨j + 1, b, m, by simpa using h1, h2⟩
            · obtain ⟨j, b, m, h1, h2⟩ := ih h
              exact ⟨j + 1, b, m, by simpa using h1, h2⟩
      exact this as hi
    · exact .inr (putBack_ne as ss' ρ hi)
  have bk : ∀ (i : Nat) (b : Bool) (m : MO), (putBack as ss' ρ)[i]? = some (.own b m) → ∃ m', ρ[i]? = some (.own b m') := fun i b m h => by
    rcases cases_ i with ⟨_, j, b', m', h1, h2⟩ | q
    · obtain ⟨m2, h3, _⟩ := own i j b' m' h1 h2
      rw [h3] at h; cases h
      exact ⟨m', h2⟩
    · rw [q] at h; exact ⟨m, h⟩
  have ow' : ∀ a, Ow σ (putBack as ss' ρ) a → Ow σ ρ a := fun a ⟨i, b, m, h, f⟩ => by
    obtain ⟨m', h'⟩ := bk i b m h
    exact ⟨i, b, m', h', f⟩
  have plen : (putBack as ss' ρ).length = ρ.length := by
    have : ∀ (l : List AV) (t : List Slot) (r : Ev), (putBack l t r).length = r.length := by
      intro l
      induction l with
      | nil => intro t r; simp [putBack]
      | cons x l ih =>
        intro t r
        cases t with
        | nil => cases x <;> simp [putBack]
        | cons y t =>
          cases x with
          | v x =>
            rw [putBack_v]
            exact ih t r
          | s k =>
            rw [putBack_s]
            split
            · rw [ih, List.length_set]
            · exact ih t r
    exact this as ss' ρ
  refine ⟨⟨n.abs.le, by rw [plen]; exact A.len, fun i s h => ?_, fun i k b m b' m' a h1 h2 h3 h4 => ?_⟩, n.g, fun a o h no => n.k a o h fun w => ?_, n.d, fun a u h => ?_, fun a h => .inl (ow' a h), fun i m h => ?_, fun i m h => bk i true m h⟩
  · rcases cases_ i with ⟨_, j, b', m', h1, h2⟩ | q
    · obtain ⟨m2, h3, h4⟩ := own i j b' m' h1 h2
      rw [h3] at h; cases h
      obtain ⟨a, ea, g, q⟩ := n.abs.own h4
      obtain ⟨v, e1, e2⟩ := r.get h1
      rw [map_some_get] at ea
      rw [ea] at e1; cases e1
      exact ⟨a, e2, g, q⟩
    · rw [q] at h
      have z := A.sl i s h
      cases s with
      | non => trivial
      | val x => obtain ⟨v, e1, e2⟩ := z; exact ⟨v, e1, e2.mono n.leg⟩
      | exn x => obtain ⟨a, c, d, e0, e1, e2⟩ := z; exact ⟨a, c, d, e0, e1, e2.mono n.leg⟩
      | own b m =>
        obtain ⟨a, e1, g, rm⟩ := z
        obtain ⟨o, ho⟩ := rm.some
        by_cases hp : Ow (vs.map some) ss a
        · obtain ⟨i', j, b1, m1, h1, h2, h3, h4, h5⟩ := ow_args r e hp
          have : i = i' := A.inj i i' _ _ _ _ a h h2 e1 h3
          subst this
          obtain ⟨m2, h6, h7⟩ := own i j b1 m1 h1 h2
          rw [q, h] at h6; cases h6
          obtain ⟨a', ea, g', q'⟩ := n.abs.own h7
          rw [h5] at ea; cases ea
          exact ⟨a, e1, g', q'⟩
        · refine ⟨a, e1, ?_, rm.mono n.leg ((n.k a o ho hp).trans ho.symm)⟩
          cases q2 : G' a with
          | none => rfl
          | some u =>
            rcases n.f a u q2 with z | z | z
            · rw [g] at z; cases z
            · rw [ho] at z; cases z
            · exact absurd z (owF_args e)
  · obtain ⟨m1, q1⟩ := bk i b m h1
    obtain ⟨m2, q2⟩ := bk k b' m' h2
    exact A.inj i k _ _ _ _ a q1 q2 h3 h4
  · obtain ⟨i', j, b1, m1, h1, h2, h3, h4, h5⟩ := ow_args r e w
    exact no ⟨i', b1, m1, h2, h3⟩
  · rcases n.f a u h with z | z | z
    · exact .inl z
    · exact .inr (.inl z)
    · exact absurd z (owF_args e)
  · refine ⟨?_, rfl⟩
    rcases cases_ i with ⟨_, j, b', m', h1, h2⟩ | q
    · obtain ⟨m2, h3, h4⟩ := own i j b' m' h1 h2
      rw [h] at h2; cases h2
      exact ⟨m2, h3⟩
    · exact ⟨m, by rw [q]; exact h⟩
end
end TR

set_option Elab.async false
set_option linter.all false
set_option maxRecDepth 100000
/-! TRG: calls of defs, new lists, statements, defs. -/
namespace TR
open PySem PySem.Spec L2
set_option autoImplicit false
section
variable {D : Wd} {W : WX} {X : Cx} {a b c e : Expr} {es : List Expr} {pos p2 p : Pos} {m m1 m2 : EM PV} {ms : EM (List AV)}

/-- a new object is frozen -/
theorem nx_freeze {G H G1 H1 : Hp} {σ σ1 : St} {ρ ρ1 : Ev} {a : Addr} {m : MO} (n : Nx D G H σ ρ G1 H1 σ1 ρ1) (ga : G1 a = none) (ha : H a = none) (r : MRep D G1 H1 a m) (no : ¬ Ow σ1 ρ1 a) : ∃ G2, Nx D G H σ ρ G2 H1 σ1 ρ1 ∧ Rep D G2 m.pv (.ref a) := by
  obtain ⟨o, ho⟩ := r.some
  have gg : ∀ b u, G1 b = some u → upd G1 a o b = some u := fun b u h => by
    have : b ≠ a := fun z => by rw [z, ga] at h; cases h
    rw [upd_ne this]; exact h
  have lg : LeG G1 (upd G1 a o) := LeG.of_same gg
  have rp : Rep D (upd G1 a o) m.pv (.ref a) := by
    cases m with
    | lst xs =>
      obtain ⟨vs, h, r⟩ := r
      rw [ho] at h; cases h
      exact ⟨a, vs, rfl, .inl (.inl upd_same), r.mono lg⟩
    | dct xs =>
      obtain ⟨vs, h, r⟩ := r
      rw [ho] at h; cases h
      exact ⟨a, vs, rfl, .inl upd_same, r.mono lg⟩
    | obj c xs =>
      obtain ⟨C, dx, vs, h, t, r⟩ := r
      rw [ho] at h; cases h
      exact ⟨a, C, dx, vs, rfl, upd_same, t, r.mono lg⟩
  have le : LeG (upd G1 a o) H1 := fun b u h => by
    by_cases hb : b = a
    · subst hb
      rw [upd_same] at h; cases h; exact ho
    · rw [upd_ne hb] at h; exact n.abs.le _ _ h
  refine ⟨upd G1 a o, ⟨⟨le, n.abs.len, fun j s h => ?_, n.abs.inj⟩, fun b u h => gg b u (n.g b u h), n.k, n.d, fun b u h => ?_, n.w, n.br, n.nb⟩, rp⟩
  · have q := n.abs.sl j s h
    cases s with
    | non => trivial
    | val x => obtain ⟨v, e2, r2⟩ := q; exact ⟨v, e2, r2.mono lg⟩
    | exn x => obtain ⟨a, c, d, e0, e1, e2⟩ := q; exact ⟨a, c, d, e0, e1, e2.mono lg⟩
    | own b m' =>
      obtain ⟨c, e2, gc, r2⟩ := q
      refine ⟨c, e2, ?_, r2.mono lg rfl⟩
      rw [upd_ne]
      · exact gc
      · rintro rfl
        exact no ⟨j, b, m', h, e2⟩
  · by_cases hb : b = a
    · subst hb; exact .inr (.inl ha)
    · rw [upd_ne hb] at h; exact n.f b u h

/-! ### calls of defs -/
def Ret.pv : Ret → PV
  | .v x => x
  | .o m => m.pv
def applyF (f : FM) (as : List AV) : EM Ret := fun ρ => match mkArgs as ρ with
  | none => .stuck
  | some ss => if (owns as ρ).Nodup then (match f ss with
    | .ok r ss' => .ok r (putBack as ss' ρ)
    | .exc e ss' => .exc e (putBack as ss' ρ)
    | .stuck => .stuck) else .stuck
def callF (f : FM) (ms : EM (List AV)) : EM Ret := fun ρ => (ms ρ).bind fun as ρ1 => applyF f as ρ1
/-- the answer frozen -/
def callE (f : FM) (ms : EM (List AV)) : EM PV := fun ρ => (callF f ms ρ).bind fun r ρ => .ok r.pv ρ
/-- the answer a new own object -/
def callO (f : FM) (ms : EM (List AV)) : EM MO := fun ρ => (callF f ms ρ).bind fun r ρ => match r with
  | .o m => .ok m ρ
  | .v _ => .stuck
/-- a reading that gives a new own object -/
def tN (D : Wd) (W : WX) (m : EM MO) : TE := fun σ H Q => ∃ G ρ, Abs D G H σ ρ ∧ Kg D W (m ρ) G H σ ρ fun mo ρ' G' H' => ∀ a, G' a = none → H a = none → MRep D G' H' a mo → ¬ Ow σ ρ' a → Q (.ref a) H'
abbrev RN (D : Wd) (W : WX) (X : Cx) (e : Expr) (m : EM MO) : Prop := PE X e (tN D W m)
def frz (m : EM MO) : EM PV := fun ρ => (m ρ).bind fun mo ρ => .ok mo.pv ρ
theorem re_frz {m : EM MO} (h : RN D W X e m) : RE D W X e (frz m) := h.imp fun σ H Q ⟨G, ρ, A, k⟩ => ⟨G, ρ, A, by
  unfold frz at k
  cases q : m ρ with
  | stuck => rw [q] at k; exact k
  | exc e ρ' => rw [q] at k; exact k
  | ok mo ρ' =>
    rw [q] at k
    intro G' H' n a ga ha r no
    obtain ⟨G2, n2, r2⟩ := nx_freeze n ga ha r no
    exact k G2 H' n2 _ r2⟩
theorem putBack_ow {σ : St} {a : Addr} : ∀ (as : List AV) (ss : List Slot) (ρ : Ev), Ow σ (putBack as ss ρ) a → Ow σ ρ a
  | [], _, ρ, h => by simpa [putBack] using h
  | .v x :: r, [], ρ, h => by simpa [putBack] using h
  | .s x :: r, [], ρ, h => by simpa [putBack] using h
  | .v x :: r, s :: ss, ρ, h => putBack_ow r ss ρ (by rwa [putBack_v] at h)
  | .s k :: r, s :: ss, ρ, h => by
    rw [putBack_s] at h
    split at h
    · rename_i b m0 b2 m ek
      obtain ⟨i, b3, m3, h1, h2⟩ := putBack_ow r ss _ h
      have hk : k < ρ.length := (List.getElem?_eq_some_iff.mp ek).1
      by_cases z : i = k
      · subst z; exact ⟨i, b, m0, ek, h2⟩
      · rw [List.getElem?_set_ne (Ne.symm z)] at h1
        exact ⟨i, b3, m3, h1, h2⟩
    · exact putBack_ow r ss ρ h
/-- what is asked of the callee -/
theorem call_sp {G H : Hp} {σ : St} {ρ : Ev} {as : List AV} {vs : List V} {f : FM} {P : Ret → Ev → Hp → Hp → Prop} {Q : VK} (A : Abs D G H σ ρ) (r : AVs D G σ as vs)
    (k : Kg D W (applyF f as ρ) G H σ ρ P)
    (q : ∀ r ρ' G' H' v, Nx D G H σ ρ G' H' σ ρ' → (∀ a, Ow σ ρ' a → Ow σ ρ a) → (∀ G' H', Nx D G H σ ρ G' H' σ ρ' → P r ρ' G' H') → RRep D G H G' H' r v → Q v H') : FSp D f vs H Q (WE W σ) := by
  unfold applyF at k
  split at k
  · exact False.elim k
  · rename_i ss e
    split at k
    · rename_i nd
      refine ⟨G, ss, (mkArgs_get e).2.1, abs_args A r e nd, ?_⟩
      split at k
      · rename_i rt ss' hf
        try rw [hf]
        exact fun G' H' v n rr => q rt _ G' H' v (nx_call A r e nd n) (fun a => putBack_ow as ss' ρ) k rr
      · rename_i ex ss' hf
        try rw [hf]
        exact fun G' H' c d n er => k G' H' c d (nx_call A r e nd n) er
      · exact False.elim k
    · exact False.elim k
theorem ret_free {G H : Hp} {σ : St} {ρ ρ1 : Ev} {a : Addr} (A : Abs D G H σ ρ) (ha : H a = none) (w : ∀ a, Ow σ ρ1 a → Ow σ ρ a) : ¬ Ow σ ρ1 a := fun h => by
  obtain ⟨⟨o, ho⟩, _⟩ := A.ow_some (w a h)
  rw [ha] at ho; cases ho
theorem Kg.map {α β : Type} {g : α → β} {o : Out α} {G H : Hp} {σ : St} {ρ : Ev} {P : β → Ev → Hp → Hp → Prop} (h : Kg D W (o.bind fun x ρ => .ok (g x) ρ) G H σ ρ P) : Kg D W o G H σ ρ fun x ρ' G' H' => P (g x) ρ' G' H' := by
  cases o <;> exact h
theorem callF_le {f : FM} (σ : St) (H : Hp) (Q : VK) (G : Hp) (ρ : Ev) (A : Abs D G H σ ρ) (h : Kg D W (callF f ms ρ) G H σ ρ fun r ρ' G' H' => ∀ v, (match r with
    | .v x => Rep D G' x v
    | .o m => ∃ a, v = .ref a ∧ Rep D G' m.pv v) → Q v H') : tA D W ms σ H fun vs H1 => FSp D f vs H1 Q (WE W σ) := by
  refine ⟨G, ρ, A, (Kg.bind (o := ms ρ) h).mono fun as ρ1 G1 H1 n1 k1 vs rs => ?_⟩
  refine call_sp n1.abs rs k1 fun r ρ' G' H' v n2 w p rr => ?_
  cases r with
  | v x => exact p G' H' n2 v rr
  | o mo =>
    obtain ⟨a, rfl, ga, ha, rm⟩ := rr
    obtain ⟨G2, n3, r3⟩ := nx_freeze n2 ga ha rm (ret_free n1.abs ha w)
    exact p G2 H' n3 _ ⟨a, rfl, r3⟩
theorem callE_le {f : FM} (σ : St) (H : Hp) (Q : VK) (h : tE D W (callE f ms) σ H Q) : tA D W ms σ H fun vs H1 => FSp D f vs H1 Q (WE W σ) := by
  obtain ⟨G, ρ, A, k⟩ := h
  refine callF_le σ H Q G ρ A ((Kg.map k).mono fun r ρ' G' H' n f v rr => ?_)
  cases r with
  | v x => exact f v rr
  | o mo => obtain ⟨a, rfl, r⟩ := rr; exact f _ r
theorem callO_le {f : FM} (σ : St) (H : Hp) (Q : VK) (h : tN D W (callO f ms) σ H Q) : tA D W ms σ H fun vs H1 => FSp D f vs H1 Q (WE W σ) := by
  obtain ⟨G, ρ, A, k⟩ := h
  have k' : Kg D W (callF f ms ρ) G H σ ρ fun r ρ' G' H' => match r with
    | .v _ => False
    | .o mo => ∀ a, G' a = none → H a = none → MRep D G' H' a mo → ¬ Ow σ ρ' a → Q (.ref a) H' := by
    unfold callO at k
    cases hq : callF f ms ρ with
    | stuck => rw [hq] at k; exact k
    | exc e ρ' => rw [hq] at k; exact k
    | ok r ρ' =>
      rw [hq] at k
      cases r with
      | v x => exact False.elim k
      | o mo => exact k
  refine ⟨G, ρ, A, (Kg.bind (o := ms ρ) k').mono fun as ρ1 G1 H1 n1 k1 vs rs => ?_⟩
  refine call_sp n1.abs rs k1 fun r ρ' G' H' v n2 w p rr => ?_
  cases r with
  | v x => exact False.elim (p G' H' n2)
  | o mo =>
    obtain ⟨a, rfl, ga, ha, rm⟩ := rr
    exact p G' H' n2 a ga (n1.d a ha) rm (ret_free n1.abs ha w)

/-! ### f(e, ..) -/
section
variable {k : Nat} {f : Addr} {fd : FuncData} {ps : List Str} {fm : FM} {x : Str}
theorem pe_call0S {CX : CXT} {sp : Sp} {E : St → XK} (F : FnOk X.prog X.w X.K X.mg X.base CX k f fd ps sp) (hr : Room k X.A) (hg : Gl X x) (hm : X.mg x = some (.ref f)) (hk : PySem.W.keepIn X.K (.ref f) = true) (hb : Binds X.K fd ps []) (hx : ∀ σ, PassesAt CX X σ (E σ))
    (hdb : (x == ("__debug__" : Str)) = false := by decide) : PE X (.Call (.Name x p) [] [] pos) (fun σ H Q => sp [] H Q (E σ)) := by
  refine ⟨fun pins s σ H Q I h => ?_⟩
  refine wpAny_Call_Name_kw (ld_glob I hg hm ?_ hdb)
  exact PySem.W.callWith_K0 I.kIn hk (run_fnSD (us := []) (vs := []) (dvs := []) (ds := []) F hr hb .nil (hx σ) I .nil h)
theorem re_call (F : FnOk X.prog X.w X.K X.mg X.base (L2.CX X.prog X.w) k f fd ps (FSp D fm)) (hr : Room k X.A) (hg : Gl X x) (hm : X.mg x = some (.ref f)) (hk : PySem.W.keepIn X.K (.ref f) = true) (hb : Binds X.K fd ps []) (tk : Takes X W)
    (ha : RA D W X (e :: es) ms) (hdb : (x == ("__debug__" : Str)) = false := by decide) (he : starEach (e :: es) X.env = (false, eval e X.env) :: starEach es X.env := by rfl) (hpl : (backTo pos (starEach es X.env)).any (·.1) = false := by rfl) :
    RE D W X (.Call (.Name x p) (e :: es) [] pos) (callE fm ms) :=
  (pe_callSD (dvs := []) F hr hg hm hk hb .nil (fun σ => passAt tk σ) ha hdb he hpl).imp fun σ H Q h => by
    have := callE_le σ H Q h
    simpa only [tCallSD, List.append_nil] using this
theorem rn_call (F : FnOk X.prog X.w X.K X.mg X.base (L2.CX X.prog X.w) k f fd ps (FSp D fm)) (hr : Room k X.A) (hg : Gl X x) (hm : X.mg x = some (.ref f)) (hk : PySem.W.keepIn X.K (.ref f) = true) (hb : Binds X.K fd ps []) (tk : Takes X W)
    (ha : RA D W X (e :: es) ms) (hdb : (x == ("__debug__" : Str)) = false := by decide) (he : starEach (e :: es) X.env = (false, eval e X.env) :: starEach es X.env := by rfl) (hpl : (backTo pos (starEach es X.env)).any (·.1) = false := by rfl) :
    RN D W X (.Call (.Name x p) (e :: es) [] pos) (callO fm ms) :=
  (pe_callSD (dvs := []) F hr hg hm hk hb .nil (fun σ => passAt tk σ) ha hdb he hpl).imp fun σ H Q h => by
    have := callO_le σ H Q h
    simpa only [tCallSD, List.append_nil] using this
theorem avs_nil {G : Hp} {σ : St} {vs : List V} (h : AVs D G σ [] vs) : vs = [] := h
theorem re_call0 (F : FnOk X.prog X.w X.K X.mg X.base (L2.CX X.prog X.w) k f fd ps (FSp D fm)) (hr : Room k X.A) (hg : Gl X x) (hm : X.mg x = some (.ref f)) (hk : PySem.W.keepIn X.K (.ref f) = true) (hb : Binds X.K fd ps []) (tk : Takes X W)
    (hdb : (x == ("__debug__" : Str)) = false := by decide) : RE D W X (.Call (.Name x p) [] [] pos) (callE fm argNil) :=
  (pe_call0S F hr hg hm hk hb (fun σ => passAt tk σ) hdb).imp fun σ H Q h => by
    obtain ⟨G, ρ, A, k⟩ := callE_le σ H Q h
    exact k G H (Nx.refl A) [] rfl
theorem rn_call0 (F : FnOk X.prog X.w X.K X.mg X.base (L2.CX X.prog X.w) k f fd ps (FSp D fm)) (hr : Room k X.A) (hg : Gl X x) (hm : X.mg x = some (.ref f)) (hk : PySem.W.keepIn X.K (.ref f) = true) (hb : Binds X.K fd ps []) (tk : Takes X W)
    (hdb : (x == ("__debug__" : Str)) = false := by decide) : RN D W X (.Call (.Name x p) [] [] pos) (callO fm argNil) :=
  (pe_call0S F hr hg hm hk hb (fun σ => passAt tk σ) hdb).imp fun σ H Q h => by
    obtain ⟨G, ρ, A, k⟩ := callO_le σ H Q h
    exact k G H (Nx.refl A) [] rfl
end

/-! ### displays -/
def vals : List AV → Option (List PV)
  | [] => some []
  | .v x :: r => (vals r).map (x :: ·)
  | .s _ :: _ => none
theorem vals_rep {G : Hp} {σ : St} : ∀ {as : List AV} {vs : List V} {xs : List PV}, AVs D G σ as vs → vals as = some xs → Reps D G xs vs
  | [], _, _, h, e => by cases e; exact h
  | .v x :: r, _, _, h, e => by
    obtain ⟨v, ws, rfl, h1, h2⟩ := h
    rw [vals] at e
    cases q : vals r with
    | none => rw [q] at e; cases e
    | some ys => rw [q] at e; cases e; exact ⟨v, ws, rfl, h1, vals_rep h2 q⟩
  | .s _ :: _, _, _, _, e => by cases e
def lstM (ms : EM (List AV)) : EM MO := fun ρ => (ms ρ).bind fun as ρ => match vals as with
  | some xs => if xs.length ≤ sizeLine then .ok (.lst xs) ρ else .stuck
  | none => .stuck
def tupM (ms : EM (List AV)) : EM PV := fun ρ => (ms ρ).bind fun as ρ => match vals as with
  | some xs => if xs.length ≤ sizeLine then .ok (.tup xs) ρ else .stuck
  | none => .stuck
theorem rn_lst (h : RA D W X es ms) : RN D W X (.List es pos) (lstM ms) := (pe_lst h).imp fun σ H Q ⟨G, ρ, A, k⟩ => ⟨G, ρ, A, by
  unfold lstM at k
  cases q : ms ρ with
  | stuck => rw [q] at k; exact k
  | exc e ρ' => rw [q] at k; exact k
  | ok as ρ1 =>
    rw [q] at k
    intro G1 H1 n vs rs
    simp only [Out.bind_ok] at k
    split at k
    · rename_i xs ev
      split at k
      · rename_i hz
        have rr := vals_rep rs ev
        refine ⟨by rw [rr.length]; exact hz, fun p hp => ?_⟩
        have gn := Grow.newH (o := .lst vs) n.abs.le hp
        have n2 := n.abs.grow gn
        have gp : G1 p = none := by
          cases z : G1 p with
          | none => rfl
          | some u =>
            have z2 := n.abs.le p u z
            rw [hp] at z2; cases z2
        exact k G1 _ (n.trans n2) p gp (n.d p hp) ⟨vs, upd_same, rr⟩ fun w => by
          obtain ⟨⟨o, ho⟩, _⟩ := n.abs.ow_some w
          rw [hp] at ho; cases ho
      · exact False.elim k
    · exact False.elim k⟩
theorem re_tup {x1 : Nat} (h : RA D W X es ms) : RE D W X (.Tuple es x1 pos) (tupM ms) := (pe_tup h).imp fun σ H Q ⟨G, ρ, A, k⟩ => ⟨G, ρ, A, (Kg.bind k).mono fun as ρ1 G1 H1 n k1 vs rs => by
  split at k1
  · rename_i xs ev
    split at k1
    · rename_i hz
      have rr := vals_rep rs ev
      refine ⟨by rw [rr.length]; exact hz, fun p hp => ?_⟩
      have gn := Grow.new (o := .tup vs) n.abs.le hp
      exact k1 _ _ (n.abs.grow gn) _ ⟨p, vs, rfl, .inl (.inl upd_same), rr.mono gn.leg⟩
    · exact False.elim k1
  · exact False.elim k1⟩
end
end TR

set_option Elab.async false
set_option linter.all false
set_option maxRecDepth 100000
/-! TRH: statements, loops, defs. -/
namespace TR
open PySem PySem.Spec L2
set_option autoImplicit false

inductive SO where
  | nxt (ρ : Ev) | ret (r : Ret) (ρ : Ev) | brk (ρ : Ev) | cnt (ρ : Ev) | exc (e : Ex) (ρ : Ev) | stuck
abbrev SM := Ev → SO
def RetR (D : Wd) (G H : Hp) (σ : St) (ρ : Ev) (G' H' : Hp) (r : Ret) (v : V) : Prop := match r with
  | .v x => Rep D G' x v
  | .o m => ∃ a, v = .ref a ∧ G' a = none ∧ (H a = none ∨ OwF σ ρ a) ∧ MRep D G' H' a m
def Ks (D : Wd) (W : WX) (o : SO) (G H : Hp) (σ : St) (ρ : Ev) (E : Ends) : Prop := match o with
  | .nxt ρ' => ∀ G' H' σ', Nx D G H σ ρ G' H' σ' ρ' → E.nx σ' H'
  | .brk ρ' => ∀ G' H' σ', Nx D G H σ ρ G' H' σ' ρ' → E.bk σ' H'
  | .cnt ρ' => ∀ G' H' σ', Nx D G H σ ρ G' H' σ' ρ' → E.ct σ' H'
  | .ret r ρ' => ∀ G' H' σ' v, Nx D G H σ ρ G' H' σ' ρ' → RetR D G H σ ρ G' H' r v → E.rt v H'
  | .exc e ρ' => ∀ G' H' σ' c d, Nx D G H σ ρ G' H' σ' ρ' → ERep D G' c d e → W c d σ' H'
  | .stuck => False
def tS (D : Wd) (W : WX) (m : SM) : TS := fun E σ H => ∃ G ρ, Abs D G H σ ρ ∧ Ks D W (m ρ) G H σ ρ E
abbrev RS (D : Wd) (W : WX) (X : Cx) (st : Stmt) (m : SM) : Prop := PS X st (tS D W m)
abbrev RSs (D : Wd) (W : WX) (X : Cx) (st : List Stmt) (m : SM) : Prop := PSs X st (tS D W m)
section
variable {D : Wd} {W : WX} {G H G1 H1 G2 H2 : Hp} {σ σ1 σ2 : St} {ρ ρ1 ρ2 : Ev} {E : Ends}
theorem Nx.owF (n : Nx D G H σ ρ G1 H1 σ1 ρ1) {a : Addr} (h : OwF σ1 ρ1 a) : OwF σ ρ a ∨ H a = none := by
  rcases n.w a h.ow with ⟨i, b, m, e, f⟩ | w
  · cases b with
    | false => exact .inl ⟨i, m, e, f⟩
    | true =>
      obtain ⟨⟨m', e'⟩, f'⟩ := n.br i m e
      obtain ⟨j, mj, ej, fj⟩ := h
      have ij := n.abs.inj i j _ _ _ _ a e' ej (f'.trans f) fj
      subst ij
      rw [e'] at ej; cases ej
  · exact .inr w
theorem RetR.back {r : Ret} {v : V} (n : Nx D G H σ ρ G1 H1 σ1 ρ1) (h : RetR D G1 H1 σ1 ρ1 G2 H2 r v) : RetR D G H σ ρ G2 H2 r v := by
  cases r with
  | v x => exact h
  | o m =>
    obtain ⟨a, e, g, f, q⟩ := h
    refine ⟨a, e, g, ?_, q⟩
    rcases f with f | f
    · exact .inl (n.d a f)
    · rcases n.owF f with z | z
      · exact .inr z
      · exact .inl z
theorem Ks.from {o : SO} (n : Nx D G H σ ρ G1 H1 σ1 ρ1) (h : Ks D W o G H σ ρ E) : Ks D W o G1 H1 σ1 ρ1 E := by
  cases o with
  | nxt ρ' => exact fun G' H' σ' k => h G' H' σ' (n.trans k)
  | brk ρ' => exact fun G' H' σ' k => h G' H' σ' (n.trans k)
  | cnt ρ' => exact fun G' H' σ' k => h G' H' σ' (n.trans k)
  | ret r ρ' => exact fun G' H' σ' v k rr => h G' H' σ' v (n.trans k) (rr.back n)
  | exc e ρ' => exact fun G' H' σ' c d k er => h G' H' σ' c d (n.trans k) er
  | stuck => exact h
/-- a statement's outcome handed on -/
def SO.seq (o : SO) (k : SM) : SO := match o with
  | .nxt ρ => k ρ
  | o => o
theorem Ks.seq {o : SO} {k : SM} (h : Ks D W (o.seq k) G H σ ρ E) : Ks D W o G H σ ρ { E with nx := tS D W k E } := by
  cases o with
  | nxt ρ' => exact fun G' H' σ' n => ⟨G', ρ', n.abs, Ks.from n h⟩
  | brk ρ' => exact h
  | cnt ρ' => exact h
  | ret r ρ' => exact h
  | exc e ρ' => exact h
  | stuck => exact h
/-- from an expression's outcome -/
def Out.to {α : Type} (o : Out α) (k : α → SM) : SO := match o with
  | .ok x ρ => k x ρ
  | .exc e ρ => .exc e ρ
  | .stuck => .stuck
@[simp] theorem Out.to_ok {α : Type} (x : α) (ρ : Ev) (k : α → SM) : (Out.ok x ρ).to k = k x ρ := (rfl)
@[simp] theorem Out.to_exc {α : Type} (e : Ex) (ρ : Ev) (k : α → SM) : (Out.exc e ρ : Out α).to k = .exc e ρ := (rfl)
@[simp] theorem Out.to_stuck {α : Type} (k : α → SM) : (Out.stuck : Out α).to k = .stuck := (rfl)
theorem Ks.to {α : Type} {o : Out α} {k : α → SM} (h : Ks D W (o.to k) G H σ ρ E) : Kg D W o G H σ ρ fun x ρ1 G1 H1 => Ks D W (k x ρ1) G1 H1 σ ρ1 E := by
  cases o with
  | ok x ρ' => exact fun G' H' n => Ks.from n h
  | exc e ρ' => exact fun G' H' c d n er => h G' H' σ c d n er
  | stuck => exact h
end

section
variable {D : Wd} {W : WX} {X : Cx} {a b c e : Expr} {es : List Expr} {pos p2 p : Pos} {m m1 m2 : EM PV} {ms : EM (List AV)} {st : Stmt} {rest sa sb : List Stmt} {s1 s2 : SM} {t : EM Bool}
def skipM : SM := fun ρ => .nxt ρ
def seqM (s1 s2 : SM) : SM := fun ρ => (s1 ρ).seq s2
theorem ss_nil : RSs D W X [] skipM := pss_nil.imp fun E σ H ⟨G, ρ, A, k⟩ => k G H σ (Nx.refl A)
theorem ss_cons (h1 : RS D W X st s1) (h2 : RSs D W X rest s2) : RSs D W X (st :: rest) (seqM s1 s2) := (pss_cons h1 h2).imp fun E σ H ⟨G, ρ, A, k⟩ => ⟨G, ρ, A, Ks.seq k⟩
theorem ss_one (h1 : RS D W X st s1) : RSs D W X [st] s1 := pss_one h1
theorem s_pass : RS D W X (.Pass pos) skipM := ps_pass.imp fun E σ H ⟨G, ρ, A, k⟩ => k G H σ (Nx.refl A)
def brkM : SM := fun ρ => .brk ρ
def cntM : SM := fun ρ => .cnt ρ
theorem s_break : RS D W X (.Break pos) brkM := ps_break.imp fun E σ H ⟨G, ρ, A, k⟩ => k G H σ (Nx.refl A)
theorem s_cont : RS D W X (.Continue pos) cntM := ps_continue.imp fun E σ H ⟨G, ρ, A, k⟩ => k G H σ (Nx.refl A)
def exprM (m : EM PV) : SM := fun ρ => (m ρ).to fun _ ρ => .nxt ρ
theorem s_expr (h : RE D W X e m) (hs : swapsWith e none pos.line X.env = pure false := by rfl) : RS D W X (.Expr e pos) (exprM m) :=
  (ps_expr h hs).imp fun E σ H ⟨G, ρ, A, k⟩ => ⟨G, ρ, A, (Ks.to k).mono fun x ρ1 G1 H1 n k1 v r => k1 G1 H1 σ (Nx.refl n.abs)⟩
/-! ### return -/
def retM (m : EM PV) : SM := fun ρ => (m ρ).to fun x ρ => .ret (.v x) ρ
def retO (m : EM MO) : SM := fun ρ => (m ρ).to fun x ρ => .ret (.o x) ρ
def retN : SM := fun ρ => .ret (.v .non) ρ
/-- return of a name: an own object is handed on -/
def retV (i : Nat) : SM := fun ρ => match ρ[i]? with
  | some (.val x) => .ret (.v x) ρ
  | some (.own false m) => .ret (.o m) ρ
  | _ => .stuck
theorem s_ret (h : RE D W X e m) : RS D W X (.Return (some e) pos) (retM m) :=
  (ps_ret h).imp fun E σ H ⟨G, ρ, A, k⟩ => ⟨G, ρ, A, (Ks.to k).mono fun x ρ1 G1 H1 n k1 v r => k1 G1 H1 σ v (Nx.refl n.abs) r⟩
theorem s_retN : RS D W X (.Return none pos) retN := ps_retN.imp fun E σ H ⟨G, ρ, A, k⟩ => k G H σ _ (Nx.refl A) rfl
theorem s_retV (i : Nat) (h : PE X e (tVar i)) : RS D W X (.Return (some e) pos) (retV i) := (ps_ret h).imp fun E σ H ⟨G, ρ, A, k⟩ => by
  unfold retV at k
  split at k
  · rename_i x e1
    obtain ⟨v, e2, r⟩ := A.val e1
    exact ⟨v, e2, k G H σ v (Nx.refl A) r⟩
  · rename_i mo e1
    obtain ⟨ad, e2, g, r⟩ := A.own e1
    exact ⟨_, e2, k G H σ _ (Nx.refl A) ⟨ad, rfl, g, .inr ⟨i, mo, e1, e2⟩, r⟩⟩
  · exact False.elim k
theorem s_retO {mo : EM MO} (h : RN D W X e mo) : RS D W X (.Return (some e) pos) (retO mo) := (ps_ret h).imp fun E σ H ⟨G, ρ, A, k⟩ => ⟨G, ρ, A, by
  unfold retO at k
  cases q : mo ρ with
  | stuck => rw [q] at k; exact k
  | exc e ρ' => rw [q] at k; exact fun G' H' c d n er => k G' H' σ c d n er
  | ok x ρ' =>
    rw [q] at k
    exact fun G' H' n ad g ha r no => k G' H' σ _ n ⟨ad, rfl, g, .inl ha, r⟩⟩
/-! ### if -/
def ifM (t : EM Bool) (s1 s2 : SM) : SM := fun ρ => (t ρ).to fun k ρ => match k with
  | true => s1 ρ
  | false => s2 ρ
theorem s_if (hc : RB D W X c t) (h1 : RSs D W X sa s1) (h2 : RSs D W X sb s2) : RS D W X (.If c sa sb pos) (ifM t s1 s2) :=
  (ps_if hc h1 h2).imp fun E σ H ⟨G, ρ, A, k⟩ => ⟨G, ρ, A, (Ks.to k).mono fun x ρ1 G1 H1 n k1 => by
    cases x with
    | true => rw [if_pos rfl]; exact ⟨G1, ρ1, n.abs, k1⟩
    | false => rw [if_neg Bool.false_ne_true]; exact ⟨G1, ρ1, n.abs, k1⟩⟩

/-! ### name = e -/
/-- a slot that may be stored into -/
def mayPut (ρ : Ev) (i : Nat) : Bool := match ρ[i]? with
  | some (.own true _) => false
  | _ => true
theorem mayPut_no {ρ : Ev} {i : Nat} (h : mayPut ρ i = true) : ∀ m, ρ[i]? ≠ some (.own true m) := fun m e => by
  unfold mayPut at h
  rw [e] at h
  cases h
def putV (i : Nat) (x : PV) : SM := fun ρ => if mayPut ρ i then .nxt (ρ.set i (.val x)) else .stuck
def putO (i : Nat) (m : MO) : SM := fun ρ => if mayPut ρ i then .nxt (ρ.set i (.own false m)) else .stuck
def setM (i : Nat) (m : EM PV) : SM := fun ρ => (m ρ).to (putV i)
def setO (i : Nat) (m : EM MO) : SM := fun ρ => (m ρ).to (putO i)
theorem get_set {α : Type} {l : List α} {i j : Nat} {x y : α} (h : (l.set i x)[j]? = some y) : (j = i ∧ y = x ∧ i < l.length) ∨ (j ≠ i ∧ l[j]? = some y) := by
  by_cases e : j = i
  · subst e
    by_cases hl : j < l.length
    · rw [List.getElem?_set_self hl] at h; cases h; exact .inl ⟨rfl, rfl, hl⟩
    · rw [List.getElem?_eq_none (by simpa using hl)] at h; cases h
  · rw [List.getElem?_set_ne (Ne.symm e)] at h; exact .inr ⟨e, h⟩
theorem abs_putV {G H : Hp} {σ : St} {ρ : Ev} {i : Nat} {x : PV} {v : V} (A : Abs D G H σ ρ) (r : Rep D G x v) (nb : ∀ m, ρ[i]? ≠ some (.own true m)) : Nx D G H σ ρ G H (σ.set i (some v)) (ρ.set i (.val x)) := by
  have own : ∀ (j : Nat) (b : Bool) (m : MO), (ρ.set i (.val x))[j]? = some (.own b m) → j ≠ i ∧ ρ[j]? = some (.own b m) := fun j b m h => by
    rcases get_set h with ⟨_, z, _⟩ | z
    · cases z
    · exact z
  have ne : ∀ {j : Nat}, j ≠ i → (σ.set i (some v))[j]? = σ[j]? := fun h => List.getElem?_set_ne (Ne.symm h)
  refine ⟨⟨A.le, by rw [List.length_set, List.length_set]; exact A.len, fun j s h => ?_, fun j k b m b' m' a h1 h2 h3 h4 => ?_⟩, fun _ _ h => h, fun _ _ h _ => h, fun _ h => h, fun _ _ h => .inl h, fun a h => ?_, fun j m h => ?_, fun j m h => ⟨m, (own j true m h).2⟩⟩
  · rcases get_set h with ⟨rfl, rfl, hl⟩ | ⟨hj, h⟩
    · exact ⟨v, List.getElem?_set_self (by rw [A.len]; exact hl), r⟩
    · rw [ne hj]; exact A.sl j s h
  · obtain ⟨e1, f1⟩ := own j b m h1
    obtain ⟨e2, f2⟩ := own k b' m' h2
    rw [ne e1] at h3
    rw [ne e2] at h4
    exact A.inj j k b m b' m' a f1 f2 h3 h4
  · obtain ⟨j, b, m, h1, h2⟩ := h
    obtain ⟨e1, f1⟩ := own j b m h1
    rw [ne e1] at h2
    exact .inl ⟨j, b, m, f1, h2⟩
  · have hj : j ≠ i := by rintro rfl; exact nb m h
    exact ⟨⟨m, by rw [List.getElem?_set_ne (Ne.symm hj)]; exact h⟩, ne hj⟩
theorem nx_putO {G H G1 H1 : Hp} {σ σ1 : St} {ρ ρ1 : Ev} {i : Nat} {m : MO} {a : Addr} (n : Nx D G H σ ρ G1 H1 σ1 ρ1) (g : G1 a = none) (ha : H a = none) (r : MRep D G1 H1 a m) (no : ¬ Ow σ1 ρ1 a) (nb : ∀ m, ρ1[i]? ≠ some (.own true m)) :
    Nx D G H σ ρ G1 H1 (σ1.set i (some (.ref a))) (ρ1.set i (.own false m)) := by
  have A := n.abs
  have ne : ∀ {j : Nat}, j ≠ i → (σ1.set i (some (.ref a)))[j]? = σ1[j]? := fun h => List.getElem?_set_ne (Ne.symm h)
  have nbi : ∀ m, ρ[i]? ≠ some (.own true m) := fun m h => by
    obtain ⟨⟨m', h'⟩, _⟩ := n.br i m h
    exact nb m' h'
  refine ⟨⟨A.le, by rw [List.length_set, List.length_set]; exact A.len, fun j s h => ?_, fun j k b m1 b' m2 c h1 h2 h3 h4 => ?_⟩, n.g, n.k, n.d, n.f, fun c h => ?_, fun j m1 h => ?_, fun j m1 h => ?_⟩
  · rcases get_set h with ⟨rfl, rfl, hl⟩ | ⟨hj, h⟩
    · exact ⟨a, List.getElem?_set_self (by rw [A.len]; exact hl), g, r⟩
    · rw [ne hj]; exact A.sl j s h
  · rcases get_set h1 with ⟨z1, e1, hl⟩ | ⟨hj, f1⟩
    · rw [z1, List.getElem?_set_self (by rw [A.len]; exact hl)] at h3
      cases h3
      rcases get_set h2 with ⟨z2, _, _⟩ | ⟨hk, f2⟩
      · rw [z1, z2]
      · rw [ne hk] at h4
        exact absurd ⟨k, b', m2, f2, h4⟩ no
    · rw [ne hj] at h3
      rcases get_set h2 with ⟨z2, e2, hl⟩ | ⟨hk, f2⟩
      · rw [z2, List.getElem?_set_self (by rw [A.len]; exact hl)] at h4
        cases h4
        exact absurd ⟨j, b, m1, f1, h3⟩ no
      · rw [ne hk] at h4
        exact A.inj j k b m1 b' m2 c f1 f2 h3 h4
  · obtain ⟨j, b, m1, h1, h2⟩ := h
    rcases get_set h1 with ⟨rfl, e1, hl⟩ | ⟨hj, h1⟩
    · rw [List.getElem?_set_self (by rw [A.len]; exact hl)] at h2
      cases h2
      exact .inr ha
    · rw [ne hj] at h2
      exact n.w c ⟨j, b, m1, h1, h2⟩
  · have hj : j ≠ i := by rintro rfl; exact nbi m1 h
    obtain ⟨⟨m', h'⟩, q⟩ := n.br j m1 h
    exact ⟨⟨m', by rw [List.getElem?_set_ne (Ne.symm hj)]; exact h'⟩, by rw [ne hj]; exact q⟩
  · rcases get_set h with ⟨_, z, _⟩ | ⟨_, h⟩
    · cases z
    · exact n.nb j m1 h
theorem s_set {i : Nat} {x : Str} {pos' : Pos} (hN : X.N.Nodup) (hi : X.N[i]? = some x) (hx : Loc X.env.scope x) (he : RE D W X e m) (hs : swapsWith e (some (.Name x pos')) pos.line X.env = pure false := by rfl)
    (hf : X.fn x = true ∨ X.env.scope.names.lookup x = some .local := by first | exact .inl rfl | exact .inr rfl | assumption) : RS D W X (.Assign [.Name x pos'] e pos) (setM i m) :=
  (ps_set hN hi hx he hs hf).imp fun E σ H ⟨G, ρ, A, k⟩ => ⟨G, ρ, A, (Ks.to k).mono fun x ρ1 G1 H1 n k1 v r => by
    unfold putV at k1
    split at k1
    · rename_i h
      exact k1 G1 H1 _ (abs_putV n.abs r (mayPut_no h))
    · exact False.elim k1⟩
theorem s_setO {i : Nat} {x : Str} {pos' : Pos} {mo : EM MO} (hN : X.N.Nodup) (hi : X.N[i]? = some x) (hx : Loc X.env.scope x) (he : RN D W X e mo) (hs : swapsWith e (some (.Name x pos')) pos.line X.env = pure false := by rfl)
    (hf : X.fn x = true ∨ X.env.scope.names.lookup x = some .local := by first | exact .inl rfl | exact .inr rfl | assumption) : RS D W X (.Assign [.Name x pos'] e pos) (setO i mo) :=
  (ps_set hN hi hx he hs hf).imp fun E σ H ⟨G, ρ, A, k⟩ => ⟨G, ρ, A, by
    unfold setO at k
    cases q : mo ρ with
    | stuck => rw [q] at k; exact k
    | exc e ρ' => rw [q] at k; exact fun G' H' c d n er => k G' H' σ c d n er
    | ok mo ρ' =>
      rw [q] at k
      intro G' H' n ad g ha r no
      rw [Out.to_ok] at k
      unfold putO at k
      split at k
      · rename_i h
        exact k G' H' _ (nx_putO n g ha r no (mayPut_no h))
      · exact False.elim k⟩
end
end TR

set_option Elab.async false
set_option linter.all false
set_option maxRecDepth 100000
/-! TRI: own objects changed, loops, defs. -/
namespace TR
open PySem PySem.Spec L2
set_option autoImplicit false
section
variable {D : Wd} {W : WX} {X : Cx} {a b c e o ix : Expr} {es : List Expr} {pos p2 p : Pos} {m m1 m2 : EM PV} {ms : EM (List AV)} {st : Stmt} {rest sa sb body : List Stmt} {s1 s2 sb' : SM} {t : EM Bool}

/-! ### an own object is changed -/
theorem nx_upd {G H : Hp} {σ : St} {ρ : Ev} {i : Nat} {f : Bool} {m m' : MO} {a : Addr} {o' : HO} (A : Abs D G H σ ρ) (e : ρ[i]? = some (.own f m)) (es : σ[i]? = some (some (.ref a))) (r : MRep D G (upd H a o') a m') :
    Nx D G H σ ρ G (upd H a o') σ (ρ.set i (.own f m')) := by
  obtain ⟨a', e1, ga, r0⟩ := A.own e
  rw [es] at e1; cases e1
  have hi : i < ρ.length := (List.getElem?_eq_some_iff.mp e).1
  have own : ∀ (j : Nat) (b : Bool) (m1 : MO), (ρ.set i (.own f m'))[j]? = some (.own b m1) → ∃ m2, ρ[j]? = some (.own b m2) := fun j b m1 h => by
    rcases get_set h with ⟨z, q, _⟩ | ⟨_, h⟩
    · cases q; rw [z]; exact ⟨m, e⟩
    · exact ⟨m1, h⟩
  have ow : ∀ c, Ow σ (ρ.set i (.own f m')) c → Ow σ ρ c := fun c ⟨j, b, m1, h, q⟩ => by
    obtain ⟨m2, h2⟩ := own j b m1 h
    exact ⟨j, b, m2, h2, q⟩
  refine ⟨⟨fun b u h => ?_, by rw [List.length_set]; exact A.len, fun j s h => ?_, fun j k b m1 b' m2 c h1 h2 h3 h4 => ?_⟩, fun _ _ h => h, fun c u h no => ?_, fun c h => ?_, fun _ _ h => .inl h, fun c h => .inl (ow c h), fun j m1 h => ?_, fun j m1 h => own j true m1 h⟩
  · have hb : b ≠ a := by
      rintro rfl
      rw [ga] at h; cases h
    exact (upd_ne hb).trans (A.le b u h)
  · rcases get_set h with ⟨z, q, _⟩ | ⟨hj, h⟩
    · subst q; rw [z]; exact ⟨a, es, ga, r⟩
    · have q := A.sl j s h
      cases s with
      | non => trivial
      | val x => exact q
      | exn x => exact q
      | own b m1 =>
        obtain ⟨c, e2, gc, r2⟩ := q
        refine ⟨c, e2, gc, r2.mono (LeG.refl G) (upd_ne ?_)⟩
        rintro rfl
        exact hj (A.inj j i _ _ _ _ c h e e2 es)
  · obtain ⟨m3, q1⟩ := own j b m1 h1
    obtain ⟨m4, q2⟩ := own k b' m2 h2
    exact A.inj j k _ _ _ _ c q1 q2 h3 h4
  · have : c ≠ a := by rintro rfl; exact no ⟨i, f, m, e, es⟩
    rw [upd_ne this]; exact h
  · by_cases z : c = a
    · subst z; rw [upd_same] at h; cases h
    · rw [upd_ne z] at h; exact h
  · refine ⟨?_, rfl⟩
    by_cases z : j = i
    · subst z; rw [e] at h; cases h; exact ⟨m', List.getElem?_set_self hi⟩
    · exact ⟨m1, by rw [List.getElem?_set_ne (Ne.symm z)]; exact h⟩

/-! ### x[i] = e -/
def dput (kvs : List (Key × PV)) (k : Key) (x : PV) : List (Key × PV) := if (kvs.any fun kv => decide (kv.1 = k)) = true then kvs.map fun kv => if kv.1 = k then (kv.1, x) else kv else kvs ++ [(k, x)]
def storeQ (m : MO) (k x : PV) : Option MO := match m with
  | .lst xs => match k with
    | .int i => (ixN xs.length i).map fun j => .lst (xs.set j x)
    | _ => none
  | .dct kvs => match keyOf k with
    | some k => if kvs.length < sizeLine then some (.dct (dput kvs k x)) else none
    | none => none
  | .obj _ _ => none
def setIx (i : Nat) (mi mv : EM PV) : SM := fun ρ => (mv ρ).to fun x ρ => (peek i ρ).to fun _ ρ => (mi ρ).to fun k ρ => match ρ[i]? with
  | some (.own b m) => match storeQ m k x with
    | some m' => .nxt (ρ.set i (.own b m'))
    | none => .stuck
  | _ => .stuck
def rSetD : V → V → V → Hp → (Hp → Prop) → Prop := fun o i v H Q => ∃ a H', o = .ref a ∧ DPut H a i v H' ∧ Q H'
theorem set_dict (hu : X.A.units + 1 < cLine) : PSet X rSetD := by
  intro pins s σ H o i v ov iv u Q I r1 r2 r3 h
  obtain ⟨ad, H', rfl, d, q⟩ := h
  cases r1
  exact d_setItem hu I d r2 r3 fun s' I' => ⟨H', I', q⟩
theorem PSet.or {r r' : V → V → V → Hp → (Hp → Prop) → Prop} (h : PSet X r) (h' : PSet X r') : PSet X (fun o i v H Q => r o i v H Q ∨ r' o i v H Q) := by
  intro pins s σ H o i v ov iv u Q I r1 r2 r3 q
  rcases q with q | q
  · exact h pins s σ H o i v ov iv u Q I r1 r2 r3 q
  · exact h' pins s σ H o i v ov iv u Q I r1 r2 r3 q
theorem repd_map {G : Hp} {k : Key} {x : PV} {v : V} (r : Rep D G x v) : ∀ {kvs : List (Key × PV)} {ws : List (Key × V)}, RepD D G kvs ws → RepD D G (kvs.map fun kv => if kv.1 = k then (kv.1, x) else kv) (ws.map fun kv => if kv.1 = k then (kv.1, v) else kv)
  | [], _, h => by rw [show _ = [] from h]; rfl
  | (j, y) :: kvs, _, h => by
    obtain ⟨u, ws, rfl, h1, h2⟩ := h
    have ih := repd_map (k := k) r h2
    rw [List.map_cons, List.map_cons]
    by_cases e : j = k
    · rw [if_pos e, if_pos e]; exact ⟨v, _, rfl, r, ih⟩
    · rw [if_neg e, if_neg e]; exact ⟨u, _, rfl, h1, ih⟩
theorem repd_any {G : Hp} {k : Key} : ∀ {kvs : List (Key × PV)} {ws : List (Key × V)}, RepD D G kvs ws → (ws.any fun kv => decide (kv.1 = k)) = kvs.any fun kv => decide (kv.1 = k)
  | [], _, h => by rw [show _ = [] from h]; rfl
  | (j, y) :: kvs, _, h => by
    obtain ⟨u, ws, rfl, h1, h2⟩ := h
    rw [List.any_cons, List.any_cons, repd_any h2]
theorem repd_append {G : Hp} : ∀ {xs ys : List (Key × PV)} {vs ws : List (Key × V)}, RepD D G xs vs → RepD D G ys ws → RepD D G (xs ++ ys) (vs ++ ws)
  | [], _, _, _, h, k => by rw [show _ = [] from h]; exact k
  | (j, x) :: xs, ys, _, ws, h, k => by
    obtain ⟨v, r, rfl, h1, h2⟩ := h
    exact ⟨v, r ++ ws, rfl, h1, repd_append h2 k⟩
theorem repd_put {G : Hp} {k : Key} {x : PV} {v : V} {kvs : List (Key × PV)} {ws : List (Key × V)} (h : RepD D G kvs ws) (r : Rep D G x v) : RepD D G (dput kvs k x) (putK ws k v) := by
  unfold dput putK
  rw [repd_any h]
  split
  · exact repd_map r h
  · exact repd_append h ⟨v, [], rfl, r, rfl⟩
theorem s_setIx {i : Nat} {pos' : Pos} {mi mv : EM PV} (hu : X.A.units + 1 < cLine) (ho : PE X o (tVar i)) (hi : RE D W X ix mi) (he : RE D W X e mv) (hs : swapsWithSole [.Subscript o ix pos'] e pos.line X.env = pure false := by rfl) (hw : swappedStores [.Subscript o ix pos'] e X.env = pure none := by rfl)
    (h1 : (assignEach [.Subscript o ix pos'] X.env).map (·.2) = [assign (.Subscript o ix pos') X.env] := by rfl)
    (ha : ∀ v, assign (.Subscript o ix pos') X.env v = (do
      let ov ← holding [v] (eval o X.env)
      let iv ← holding [v, ov] (eval ix X.env)
      standAt pos'
      holding [v, ov, iv] (setItem ov iv v)
      release [v, ov, iv] []) := by intro _; rfl) : RS D W X (.Assign [.Subscript o ix pos'] e pos) (setIx i mi mv) :=
  (ps_asg he (pg_sub ho hi (PSet.or set_list (set_dict hu)) ha) hs hw h1).imp fun E σ H ⟨G, ρ, A, k⟩ => ⟨G, ρ, A, (Ks.to k).mono fun x ρ1 G1 H1 n1 k1 v rv => by
    obtain ⟨y, w, ew, rw', k2⟩ := peek_ok n1.abs (Ks.to k1)
    refine ⟨w, ew, G1, ρ1, n1.abs, (Ks.to k2).mono fun kx ρ3 G3 H3 n3 k3 u ru => ?_⟩
    split at k3
    · rename_i f m em
      obtain ⟨ad, e1, g, r⟩ := n3.abs.own em
      rw [ew] at e1; cases e1
      unfold storeQ at k3
      cases m with
      | lst xs =>
        obtain ⟨vs, hv, rs⟩ := r
        cases kx with
        | int j =>
          cases ru
          simp only at k3
          cases q : ixN xs.length j with
          | none => rw [q] at k3; exact False.elim k3
          | some l =>
            rw [q] at k3
            refine .inl ⟨ad, vs, j, l, rfl, rfl, hv, by rw [rs.length]; exact q, ?_⟩
            exact k3 G3 _ σ (nx_upd n3.abs em ew ⟨_, upd_same, rs.set l (rv.mono n3.leg)⟩)
        | _ => exact False.elim k3
      | dct kvs =>
        obtain ⟨ws, hv, rs⟩ := r
        cases q : keyOf kx with
        | none => simp only [q] at k3; exact False.elim k3
        | some key =>
          simp only [q] at k3
          by_cases hz : kvs.length < sizeLine
          · simp only [if_pos hz] at k3
            have hk := key_rep (H := H3) q (ru.toH n3.abs.le)
            subst hk
            refine .inr ⟨ad, _, rfl, DPut.k (k := key) hv (by rw [rs.length]; exact hz), ?_⟩
            exact k3 G3 _ σ (nx_upd n3.abs em ew ⟨_, upd_same, repd_put rs (rv.mono n3.leg)⟩)
          · simp only [if_neg hz] at k3; exact False.elim k3
      | obj _ _ => exact False.elim k3
    · exact False.elim k3⟩

/-! ### methods of own lists -/
/-- a method's answer and the list behind it -/
def SnM (D : Wd) (r : V → List V → Hp → VK → Prop) (g : List PV → List PV → Option (PV × List PV)) : Prop := ∀ (G H : Hp) (l : Addr) (vs : List V) (xs : List PV) (as : List PV) (ws : List V) (z : PV) (ys : List PV) (Q : VK), LeG G H → H l = some (.lst vs) → Reps D G xs vs → Reps D G as ws →
  g xs as = some (z, ys) → (∀ vs' v, Reps D G ys vs' → Rep D G z v → Q v (upd H l (.lst vs'))) → r (.ref l) ws H Q
def methM (g : List PV → List PV → Option (PV × List PV)) (i : Nat) (ms : EM (List AV)) : EM PV := fun ρ => match ρ[i]? with
  | some (.own _ (.lst _)) => (ms ρ).bind fun as ρ => match vals as, ρ[i]? with
    | some args, some (.own b (.lst xs)) => match g xs args with
      | some (z, ys) => .ok z (ρ.set i (.own b (.lst ys)))
      | none => .stuck
    | _, _ => .stuck
  | _ => .stuck
theorem meth_le {i : Nat} {r : V → List V → Hp → VK → Prop} {g : List PV → List PV → Option (PV × List PV)} (sn : SnM D r g) (σ : St) (H : Hp) (Q : VK) (h : tE D W (methM g i ms) σ H Q) : tBM D.K "list" r (tVar i) (tA D W ms) σ H Q := by
  obtain ⟨G, ρ, A, k⟩ := h
  unfold methM at k
  split at k
  · rename_i f xs e
    obtain ⟨ad, e1, g1, vs, hv, rs⟩ := A.own e
    refine ⟨_, e1, .inl ⟨rfl, vs, .inl (.inl hv)⟩, G, ρ, A, (Kg.bind k).mono fun as ρ1 G1 H1 n1 k1 ws rws => ?_⟩
    split at k1
    · rename_i args f2 xs2 ea em
      obtain ⟨ad2, e2, g2, vs2, hv2, rs2⟩ := n1.abs.own em
      rw [e1] at e2; cases e2
      split at k1
      · rename_i z ys eg
        exact sn G1 H1 ad vs2 xs2 args ws z ys Q n1.abs.le hv2 rs2 (vals_rep rws ea) eg fun vs' v r1 r2 => k1 G1 _ (nx_upd n1.abs em e1 ⟨vs', upd_same, r1⟩) v r2
      · exact False.elim k1
    · exact False.elim k1
  · exact False.elim k
def lAppend : List PV → List PV → Option (PV × List PV) := fun xs as => match as with
  | [x] => if xs.length < sizeLine then some (.non, xs ++ [x]) else none
  | _ => none
theorem sn_append : SnM D rAppend lAppend := by
  intro G H l vs xs as ws z ys Q le hv rs ra e q
  unfold lAppend at e
  split at e
  · rename_i x
    split at e
    · rename_i hz
      cases e
      obtain ⟨v, r, rfl, r1, r2⟩ := ra
      rw [show r = [] from r2]
      exact ⟨l, vs, v, rfl, rfl, hv, by rw [rs.length]; exact hz, q _ _ (rs.append (Reps.one r1)) rfl⟩
    · cases e
  · cases e
def lInsert : List PV → List PV → Option (PV × List PV) := fun xs as => match as with
  | [.int i, x] => if xs.length < sizeLine ∧ 0 ≤ i ∧ i < 2 ^ 63 then some (.non, xs.take i.toNat ++ [x] ++ xs.drop i.toNat) else none
  | _ => none
def rInsert : V → List V → Hp → VK → Prop := fun x vs H Q => ∃ (l : Addr) (xs : List V) (i : Int) (y : V), x = .ref l ∧ vs = [.int i, y] ∧ H l = some (.lst xs) ∧ xs.length < sizeLine ∧ 0 ≤ i ∧ i < 2 ^ 63 ∧
    Q .non (upd H l (.lst (xs.take i.toNat ++ [y] ++ xs.drop i.toNat)))
theorem sn_insert : SnM D rInsert lInsert := by
  intro G H l vs xs as ws z ys Q le hv rs ra e q
  unfold lInsert at e
  split at e
  · rename_i i x
    split at e
    · rename_i hz
      cases e
      obtain ⟨v, r, rfl, r1, v2, r', rfl, r2, r3⟩ := ra
      cases r1
      rw [show r' = [] from r3]
      exact ⟨l, vs, i, v2, rfl, rfl, hv, by rw [rs.length]; exact hz.1, hz.2.1, hz.2.2, q _ _ (((rs.take _).append (Reps.one r2)).append (rs.drop _)) rfl⟩
    · cases e
  · cases e
def lPop0 : List PV → List PV → Option (PV × List PV) := fun xs as => match as with
  | [] => (xs[xs.length - 1]?).map fun y => (y, xs.dropLast)
  | _ => none
theorem reps_dropLast {G : Hp} : ∀ {xs : List PV} {vs : List V}, Reps D G xs vs → Reps D G xs.dropLast vs.dropLast := fun {xs vs} h => by
  rw [List.dropLast_eq_take, List.dropLast_eq_take, h.length]
  exact h.take _
theorem sn_pop0 : SnM D rPop lPop0 := by
  intro G H l vs xs as ws z ys Q le hv rs ra e q
  unfold lPop0 at e
  split at e
  · cases h : xs[xs.length - 1]? with
    | none => rw [h] at e; cases e
    | some y =>
      rw [h] at e; cases e
      obtain ⟨v, h1, h2⟩ := rs.get h
      rw [show ws = [] from ra]
      exact ⟨l, vs, v, rfl, rfl, hv, by rw [rs.length]; exact h1, q _ _ (reps_dropLast rs) h2⟩
  · cases e
def lClear : List PV → List PV → Option (PV × List PV) := fun xs as => match as with
  | [] => some (.non, [])
  | _ => none
theorem sn_clear : SnM D rClear lClear := by
  intro G H l vs xs as ws z ys Q le hv rs ra e q
  unfold lClear at e
  split at e
  · cases e
    rw [show ws = [] from ra]
    exact ⟨l, vs, rfl, rfl, hv, q _ _ rfl rfl⟩
  · cases e
def lReverse : List PV → List PV → Option (PV × List PV) := fun xs as => match as with
  | [] => some (.non, xs.reverse)
  | _ => none
theorem reps_reverse {G : Hp} : ∀ {xs : List PV} {vs : List V}, Reps D G xs vs → Reps D G xs.reverse vs.reverse
  | [], _, h => by rw [show _ = [] from h]; rfl
  | x :: xs, _, h => by
    obtain ⟨v, r, rfl, h1, h2⟩ := h
    rw [List.reverse_cons, List.reverse_cons]
    exact (reps_reverse h2).append (Reps.one h1)
theorem sn_reverse : SnM D rReverse lReverse := by
  intro G H l vs xs as ws z ys Q le hv rs ra e q
  unfold lReverse at e
  split at e
  · cases e
    rw [show ws = [] from ra]
    exact ⟨l, vs, rfl, rfl, hv, q _ _ (reps_reverse rs) rfl⟩
  · cases e
/-- x.m(e, ..), x a name with an own list -/
theorem re_lm {apos : Pos} {i : Nat} {name : Str} {id : String} {r : V → List V → Hp → VK → Prop} {g : List PV → List PV → Option (PV × List PV)} (slot : PySem.Slot "list" name id) (hty : typeOf (.builtin id) = pure (.type "method_descriptor")) (hm : MtR X id r) (sn : SnM D r g) (hK : D.K = X.K)
    (ho : PE X o (tVar i)) (ha : RA D W X (e :: es) ms)
    (hbase : attributeBase o name X.env (eval o X.env) = eval o X.env := by rfl)
    (hfew : ((backTo pos (starEach (e :: es) X.env)).all (fun x => !x.1) && (backToKw pos (keywordEach [] X.env)).all (fun x => x.1.isSome)
      && decide ((e :: es).length + ([] : List Keyword).length + (if ([] : List Keyword).isEmpty then 0 else 1) < 30)) = true := by rfl)
    (hline : (apos.endLine == pos.line) = true := by rfl) (hs : starEach (e :: es) X.env = (false, eval e X.env) :: starEach es X.env := by rfl) (hplain : (backTo pos (starEach es X.env)).any (·.1) = false := by rfl) :
    RE D W X (.Call (.Attribute o name apos) (e :: es) [] pos) (methM g i ms) :=
  (pe_bm PySem.F.plainAttrs_list slot hty hm ho ha hbase hfew hline hs hplain).imp (hK ▸ meth_le sn)
theorem re_lm0 {apos : Pos} {i : Nat} {name : Str} {id : String} {r : V → List V → Hp → VK → Prop} {g : List PV → List PV → Option (PV × List PV)} (slot : PySem.Slot "list" name id) (hty : typeOf (.builtin id) = pure (.type "method_descriptor")) (hm : MtR X id r) (sn : SnM D r g) (hK : D.K = X.K)
    (ho : PE X o (tVar i)) (hbase : attributeBase o name X.env (eval o X.env) = eval o X.env := by rfl) (hline : (apos.endLine == pos.line) = true := by rfl) :
    RE D W X (.Call (.Attribute o name apos) [] [] pos) (methM g i argNil) :=
  (pe_bm0 PySem.F.plainAttrs_list slot hty hm ho hbase hline).imp fun σ H Q h => by
    obtain ⟨v, e1, t, G, ρ, A, k⟩ := (hK ▸ meth_le sn σ H Q h : tBM X.K "list" r (tVar i) (tA D W argNil) σ H Q)
    exact ⟨v, e1, t, k G H (Nx.refl A) [] rfl⟩

/-! ### loops -/
def loopK (k : SM) (o : SO) : SO := match o with
  | .nxt ρ => k ρ
  | .cnt ρ => k ρ
  | .brk ρ => .nxt ρ
  | o => o
/-- what holds between two turns: the start's frozen part stays -/
def tG (D : Wd) (W : WX) (G0 : Hp) (k : SM) (E : Ends) : St → Hp → Prop := fun σ H => ∃ G ρ, (∀ a u, G0 a = some u → G a = some u) ∧ Abs D G H σ ρ ∧ Ks D W (k ρ) G H σ ρ E
theorem Ks.loop {o : SO} {k : SM} {G0 G H : Hp} {σ : St} {ρ : Ev} {E : Ends} (g : ∀ a u, G0 a = some u → G a = some u) (h : Ks D W (loopK k o) G H σ ρ E) : Ks D W o G H σ ρ { E with nx := tG D W G0 k E, ct := tG D W G0 k E, bk := E.nx } := by
  cases o with
  | nxt ρ' => exact fun G' H' σ' n => ⟨G', ρ', fun a u z => n.g a u (g a u z), n.abs, Ks.from n h⟩
  | cnt ρ' => exact fun G' H' σ' n => ⟨G', ρ', fun a u z => n.g a u (g a u z), n.abs, Ks.from n h⟩
  | brk ρ' => exact h
  | ret r ρ' => exact h
  | exc e ρ' => exact h
  | stuck => exact h
/-- the turns over xs -/
def forL (tg : PV → SM) (body : SM) : List PV → SM
  | [] => fun ρ => .nxt ρ
  | x :: xs => fun ρ => loopK (forL tg body xs) ((tg x ρ).seq body)
/-- a loop's target: a name, or a tuple of names -/
def TgOk (D : Wd) (W : WX) (g : TG) (tg : PV → SM) : Prop := ∀ (G H : Hp) (σ : St) (ρ : Ev) (x : PV) (v : V) (E : Ends), Abs D G H σ ρ → Rep D G x v → Ks D W (tg x ρ) G H σ ρ E → g v σ H E.nx
theorem tg_name {i : Nat} : TgOk D W (gName i) (putV i) := by
  intro G H σ ρ x v E A r k
  unfold putV at k
  split at k
  · rename_i h
    exact k G H _ (abs_putV A r (mayPut_no h))
  · exact False.elim k
/-- one turn -/
theorem turn_ok {g : TG} {tg : PV → SM} {k : SM} {G0 G H : Hp} {σ : St} {ρ : Ev} {x : PV} {v : V} {E : Ends} (tk : TgOk D W g tg) (g0 : ∀ a u, G0 a = some u → G a = some u) (A : Abs D G H σ ρ) (r : Rep D G x v) (h : Ks D W (loopK k ((tg x ρ).seq sb')) G H σ ρ E) :
    g v σ H fun σ2 H2 => tS D W sb' { E with nx := tG D W G0 k E, ct := tG D W G0 k E, bk := E.nx } σ2 H2 :=
  tk G H σ ρ x v _ A r (Ks.seq (Ks.loop g0 h))
/-- the readings of what is walked -/
def iSeq (K : PySem.W.Frag) (tl : TE) : TI := fun σ H R => tl σ H fun x H1 => (∃ a xs, x = .ref a ∧ SqL K H1 a xs ∧ R (Itl K a) H1) ∨ (∃ a xs, x = .ref a ∧ SqT K H1 a xs ∧ R (Itt K a) H1) ∨ ∃ z, x = .str z ∧ R (Its z) H1
theorem pi_seq {tg l : Expr} {tl : TE} (hl : PE X l tl) : PI X tg l (iSeq X.K tl) := by
  refine ⟨fun pins s σ H R I h => ?_⟩
  refine thn (hl.run pins s σ H _ I h) fun v s1 ⟨x, H1, I1, r1, q1⟩ => ?_
  rcases q1 with ⟨a, xs, rfl, hq, q⟩ | ⟨a, xs, rfl, hq, q⟩ | ⟨z, rfl, q⟩
  · cases r1
    obtain ⟨its, rv, p, hz⟩ := I1.list hq
    refine wpAny_pyIter_list p.isList ?_
    refine ⟨s1.heap.objs.size, [s1.heap.objs.size], _, _, H1, rfl, I1.kept (t' := s1.toks) fun b o e => Heap.get?_push_of_some _ e, turn_list a _, ⟨_, Heap.get?_push_size _ rfl, rfl, rfl⟩, fun b hb => ?_, q⟩
    have e : b = s1.heap.objs.size := by simpa using hb
    subst e
    exact I1.fpOk (Nat.le_refl _) (I1.hok.fresh (Nat.le_refl _))
  · cases r1
    obtain ⟨its, rv, p, hz⟩ := I1.tuple hq
    refine wpAny_pyIter_tuple (show s1.heap.IsTuple a its.toArray from p) ?_
    refine ⟨s1.heap.objs.size, [s1.heap.objs.size], _, _, H1, rfl, I1.kept (t' := s1.toks) fun b o e => Heap.get?_push_of_some _ e, turn_tuple a _, ⟨_, Heap.get?_push_size _ rfl, rfl, rfl⟩, fun b hb => ?_, q⟩
    have e : b = s1.heap.objs.size := by simpa using hb
    subst e
    exact I1.fpOk (Nat.le_refl _) (I1.hok.fresh (Nat.le_refl _))
  · obtain ⟨t, rfl⟩ := r1
    cases ha : z.cps.all (· < 128)
    · exact wpAny_pyIter_wide ha (pi_one (tk := s1.toks) I1 _ (turn_str _ z t "str_iterator" (.inr rfl)) ⟨_, Heap.get?_push_size _ rfl, rfl, rfl⟩ q)
    · exact wpAny_pyIter_ascii ha (pi_one (tk := s1.toks) I1 _ (turn_str _ z t "str_ascii_iterator" (.inl rfl)) ⟨_, Heap.get?_push_size _ rfl, rfl, rfl⟩ q)
/-- the items that are walked -/
def items : PV → Option (List PV)
  | .lst xs => some xs
  | .tup xs => some xs
  | .str s => some (s.cps.toList.map fun c => .str ⟨#[c]⟩)
  | _ => none
def forM (m : EM PV) (tg : PV → SM) (body : SM) : SM := fun ρ => (m ρ).to fun x ρ => match items x with
  | some xs => forL tg body xs ρ
  | none => .stuck
theorem tG_drop {g : TG} {tg : PV → SM} {xs : List PV} {i : Nat} {G0 : Hp} {E : Ends} {σ : St} {H : Hp} (h : tG D W G0 (forL tg sb' (xs.drop i)) E σ H) (hi : xs.length ≤ i) : E.nx σ H := by
  obtain ⟨G, ρ, g0, A, k⟩ := h
  rw [List.drop_eq_nil_of_le hi] at k
  exact k G H σ (Nx.refl A)
theorem for_le {g : TG} {tg : PV → SM} (tk : TgOk D W g tg) (E : Ends) (σ : St) (H : Hp) (h : tS D W (forM m tg sb') E σ H) : tFor (iSeq D.K (tE D W m)) g (tS D W sb') E σ H := by
  obtain ⟨G, ρ, A, k⟩ := h
  refine ⟨G, ρ, A, (Ks.to k).mono fun x ρ1 G1 H1 n1 k1 v rv => ?_⟩
  split at k1
  · rename_i xs ex
    have turn : ∀ (i : Nat) (y : PV) (w : V) (σ : St) (H : Hp), xs[i]? = some y → Rep D G1 y w → tG D W G1 (forL tg sb' (xs.drop i)) E σ H → g w σ H fun σ2 H2 => tS D W sb' { E with nx := tG D W G1 (forL tg sb' (xs.drop (i + 1))) E, ct := tG D W G1 (forL tg sb' (xs.drop (i + 1))) E, bk := E.nx } σ2 H2 := by
      intro i y w σ H ey ry h
      obtain ⟨G2, ρ2, g0, A2, k2⟩ := h
      obtain ⟨hl, he⟩ := List.getElem?_eq_some_iff.mp ey
      rw [List.drop_eq_getElem_cons hl, he] at k2
      exact turn_ok tk g0 A2 (ry.mono (LeG.of_same g0)) k2
    have start : tG D W G1 (forL tg sb' (xs.drop 0)) E σ H1 := ⟨G1, ρ1, fun _ _ h => h, n1.abs, k1⟩
    unfold items at ex
    split at ex
    · cases ex
      obtain ⟨a, vs, rfl, s, rs⟩ := rv
      refine .inl ⟨a, vs, rfl, sqL_mono n1.abs.le s, ?_⟩
      refine for_list (xs := vs) (fun i σ H => tG D W G1 (forL tg sb' (xs.drop i)) E σ H) start (fun i σ H hi h => ?_) (fun i w σ H ew h => ?_) fun σ H h => tG_drop (g := g) h (by rw [rs.length]; exact Nat.le_refl _)
      · obtain ⟨G2, ρ2, g0, A2, k2⟩ := h
        exact sqL_mono A2.le (sqL_mono (LeG.of_same g0) s)
      · have hl : i < xs.length := by rw [← rs.length]; exact (List.getElem?_eq_some_iff.mp ew).1
        obtain ⟨w', e1, e2⟩ := rs.get (List.getElem?_eq_getElem hl)
        rw [ew] at e1; cases e1
        exact turn i _ w σ H (List.getElem?_eq_getElem hl) e2 h
    · cases ex
      obtain ⟨a, vs, rfl, s, rs⟩ := rv
      refine .inr (.inl ⟨a, vs, rfl, sqT_mono n1.abs.le s, ?_⟩)
      refine for_tup (xs := vs) (fun i σ H => tG D W G1 (forL tg sb' (xs.drop i)) E σ H) start (fun i σ H hi h => ?_) (fun i w σ H ew h => ?_) fun σ H h => tG_drop (g := g) h (by rw [rs.length]; exact Nat.le_refl _)
      · obtain ⟨G2, ρ2, g0, A2, k2⟩ := h
        exact sqT_mono A2.le (sqT_mono (LeG.of_same g0) s)
      · have hl : i < xs.length := by rw [← rs.length]; exact (List.getElem?_eq_some_iff.mp ew).1
        obtain ⟨w', e1, e2⟩ := rs.get (List.getElem?_eq_getElem hl)
        rw [ew] at e1; cases e1
        exact turn i _ w σ H (List.getElem?_eq_getElem hl) e2 h
    · rename_i z
      cases ex
      cases rv
      refine .inr (.inr ⟨z, rfl, fun i m σ H => m = z.cps.size - i ∧ i ≤ z.cps.size ∧ tG D W G1 (forL tg sb' ((z.cps.toList.map fun c => PV.str ⟨#[c]⟩).drop i)) E σ H, ⟨_, rfl, Nat.zero_le _, start⟩, ?_⟩)
      rintro i m σ H ⟨rfl, hi, h⟩
      by_cases hlt : i < z.cps.size
      · refine .inr ⟨hlt, tG D W G1 (forL tg sb' ((z.cps.toList.map fun c => PV.str ⟨#[c]⟩).drop (i + 1))) E, fun σ' H' h' => ⟨z.cps.size - (i + 1), by omega, rfl, hlt, h'⟩, fun x H' y => ?_⟩
        obtain ⟨rfl, c, hc, rfl⟩ := y
        refine turn i (.str ⟨#[c]⟩) _ σ _ ?_ rfl h
        rw [List.getElem?_map, Array.getElem?_toList, hc]
        rfl
      · exact .inl ⟨Nat.le_of_not_lt hlt, tG_drop (g := g) h (by simp; omega)⟩
    · cases ex
  · exact False.elim k1
theorem s_for {tgt iter : Expr} {g : TG} {tg : PV → SM} (hp : PassesOwn (model X.prog X.w) X.A X.env X.xe) (hc : X.calm = true) (hK : D.K = X.K) (hi : RE D W X iter m) (hg : PG X tgt g) (tk : TgOk D W g tg) (hb : RSs D W X body sb')
    (hs : ∀ x, foldedSetIterable iter X.env x = pure x := by intro _; rfl) : RS D W X (.For tgt iter body [] pos) (forM m tg sb') :=
  (ps_for hp hc (pi_seq hi) hg hb hs).imp (hK ▸ for_le tk)
/-- range -/
def rng (lo : Int) : Nat → List PV
  | 0 => []
  | n + 1 => .int lo :: rng (lo + 1) n
theorem rng_drop : ∀ (lo : Int) (n i : Nat), (rng lo n).drop i = rng (lo + i) (n - i)
  | lo, 0, i => by simp [rng]
  | lo, n + 1, 0 => by simp [rng]
  | lo, n + 1, i + 1 => by
    rw [rng, List.drop_succ_cons, rng_drop (lo + 1) n i]
    congr 1
    · omega
    · omega
def okR (i : Int) : Bool := decide (-(2 ^ 62) ≤ i) && decide (i < 2 ^ 62)
theorem okR_of {i : Int} (h : okR i = true) : -(2 ^ 62) ≤ i ∧ i < 2 ^ 62 := by
  unfold okR at h
  rw [Bool.and_eq_true, decide_eq_true_eq, decide_eq_true_eq] at h
  exact h
def forR1 (m : EM PV) (tg : PV → SM) (body : SM) : SM := fun ρ => (m ρ).to fun x ρ => match x with
  | .int j => if okR j then forL tg body (rng 0 j.toNat) ρ else .stuck
  | _ => .stuck
def forR2 (m1 m2 : EM PV) (tg : PV → SM) (body : SM) : SM := fun ρ => (m1 ρ).to fun x ρ => (m2 ρ).to fun y ρ => match x, y with
  | .int i, .int j => if okR i && okR j then forL tg body (rng i (j - i).toNat) ρ else .stuck
  | _, _ => .stuck
theorem range_turns {g : TG} {tg : PV → SM} (tk : TgOk D W g tg) {E : Ends} {σ : St} {H1 G1 : Hp} {ρ1 : Ev} {lo : Int} {n : Nat} (A : Abs D G1 H1 σ ρ1) (k1 : Ks D W (forL tg sb' (rng lo n) ρ1) G1 H1 σ ρ1 E) :
    ∃ Wv : Nat → Nat → St → Hp → Prop, (∃ m, Wv 0 m σ H1) ∧ ∀ i m σ H, Wv i m σ H →
      ((Itr lo n).stop i H ∧ E.nx σ H) ∨ ((Itr lo n).go i H ∧ ∃ N : St → Hp → Prop, (∀ σ' H', N σ' H' → ∃ m', m' < m ∧ Wv (i + 1) m' σ' H') ∧ ∀ x H', (Itr lo n).yld i H x H' → g x σ H' fun σ2 H2 => tS D W sb' { E with nx := N, ct := N, bk := E.nx } σ2 H2) := by
  refine for_range (fun i σ H => tG D W G1 (forL tg sb' (rng (lo + i) (n - i))) E σ H) ⟨G1, ρ1, fun _ _ h => h, A, by simpa using k1⟩ (fun i σ H hi h => ?_) fun σ H h => ?_
  · obtain ⟨G2, ρ2, g0, A2, k2⟩ := h
    have e : n - i = (n - (i + 1)) + 1 := by omega
    rw [e, rng] at k2
    have e2 : lo + (i : Int) + 1 = lo + ((i + 1 : Nat) : Int) := by omega
    rw [e2] at k2
    exact turn_ok tk g0 A2 (show Rep D G2 (.int (lo + i)) (.int (lo + i)) from rfl) k2
  · obtain ⟨G2, ρ2, g0, A2, k2⟩ := h
    rw [Nat.sub_self] at k2
    exact k2 G2 H σ (Nx.refl A2)
theorem s_forR1 {tgt a : Expr} {g : TG} {tg : PV → SM} (hp : PassesOwn (model X.prog X.w) X.A X.env X.xe) (hc : X.calm = true) (hg' : Gl X "range") (hm' : X.mg "range" = none) (ha : RE D W X a m) (hg : PG X tgt g) (tk : TgOk D W g tg) (hb : RSs D W X body sb')
    (hs : ∀ x, foldedSetIterable (.Call (.Name "range" p) [a] [] p2) X.env x = pure x := by intro _; rfl) (hst : starEach [a] X.env = [(false, eval a X.env)] := by rfl) : RS D W X (.For tgt (.Call (.Name "range" p) [a] [] p2) body [] pos) (forR1 m tg sb') :=
  (ps_for hp hc (pi_range1 hg' hm' (pa_cons ha pa_nil hst) hst) hg hb hs).imp fun E σ H ⟨G, ρ, A, k⟩ => ⟨G, ρ, A, (Ks.to k).mono fun x ρ1 G1 H1 n1 k1 v rv => by
    cases x with
    | int j =>
      cases rv
      simp only at k1
      split at k1
      · rename_i h
        obtain ⟨h1, h2⟩ := okR_of h
        exact ⟨j, rfl, h1, h2, range_turns tk n1.abs k1⟩
      · exact False.elim k1
    | _ => exact False.elim k1⟩
theorem s_forR2 {tgt a b : Expr} {g : TG} {tg : PV → SM} (hp : PassesOwn (model X.prog X.w) X.A X.env X.xe) (hc : X.calm = true) (hg' : Gl X "range") (hm' : X.mg "range" = none) (ha : RE D W X a m1) (hb' : RE D W X b m2) (hg : PG X tgt g) (tk : TgOk D W g tg) (hb : RSs D W X body sb')
    (hs : ∀ x, foldedSetIterable (.Call (.Name "range" p) [a, b] [] p2) X.env x = pure x := by intro _; rfl) (hst : starEach [a, b] X.env = [(false, eval a X.env), (false, eval b X.env)] := by rfl) (hst2 : starEach [b] X.env = [(false, eval b X.env)] := by rfl) :
    RS D W X (.For tgt (.Call (.Name "range" p) [a, b] [] p2) body [] pos) (forR2 m1 m2 tg sb') :=
  (ps_for hp hc (pi_range2 hg' hm' (pa_cons ha (pa_cons hb' pa_nil hst2) (by rw [hst2]; exact hst)) hst hst2) hg hb hs).imp fun E σ H ⟨G, ρ, A, k⟩ => ⟨G, ρ, A, (Ks.to k).mono fun x ρ1 G1 H1 n1 k1 v rv => ⟨G1, ρ1, n1.abs, (Ks.to k1).mono fun y ρ2 G2 H2 n2 k2 w rw' => by
    cases x with
    | int i =>
      cases rv
      cases y with
      | int j =>
        cases rw'
        simp only at k2
        split at k2
        · rename_i h
          rw [Bool.and_eq_true] at h
          obtain ⟨h1, h2⟩ := okR_of h.1
          obtain ⟨h3, h4⟩ := okR_of h.2
          exact ⟨i, j, rfl, ⟨h1, h2, h3, h4⟩, range_turns tk n2.abs k2⟩
        · exact False.elim k2
      | _ => exact False.elim k2
    | _ => exact False.elim k2⟩⟩

/-! ### while -/
def whF (c : EM Bool) (b : SM) : Nat → SM
  | 0 => fun _ => .stuck
  | n + 1 => fun ρ => (c ρ).to fun k ρ => match k with
    | true => loopK (whF c b n) (b ρ)
    | false => .nxt ρ
def SO.live : SO → Bool
  | .stuck => false
  | _ => true
theorem loopK_mono {k k' : SM} {o : SO} (h : ∀ ρ, (k ρ).live = true → k' ρ = k ρ) (l : (loopK k o).live = true) : loopK k' o = loopK k o := by
  cases o with
  | nxt ρ => exact h ρ l
  | cnt ρ => exact h ρ l
  | _ => rfl
theorem whF_succ {c : EM Bool} {b : SM} (n : Nat) (ρ : Ev) : whF c b (n + 1) ρ = (c ρ).to fun k ρ => match k with
    | true => loopK (whF c b n) (b ρ)
    | false => .nxt ρ := rfl
theorem whF_mono {c : EM Bool} {b : SM} : ∀ {n : Nat} {ρ : Ev}, (whF c b n ρ).live = true → whF c b (n + 1) ρ = whF c b n ρ
  | 0, ρ, h => by cases h
  | n + 1, ρ, h => by
    rw [whF_succ] at h
    rw [whF_succ, whF_succ]
    cases q : c ρ with
    | stuck => rfl
    | exc e ρ' => rfl
    | ok k ρ' =>
      rw [q] at h
      cases k with
      | false => rfl
      | true => exact loopK_mono (fun ρ h => whF_mono h) h
theorem whF_le {c : EM Bool} {b : SM} {n : Nat} {ρ : Ev} (h : (whF c b n ρ).live = true) : ∀ k, whF c b (n + k) ρ = whF c b n ρ
  | 0 => rfl
  | k + 1 => by
    have ih := whF_le h k
    rw [show n + (k + 1) = (n + k) + 1 from rfl, whF_mono (by rw [ih]; exact h), ih]
open Classical in
/-- the loop's meaning: its end, after however many turns -/
noncomputable def whM (c : EM Bool) (b : SM) : SM := fun ρ => if h : ∃ n, (whF c b n ρ).live = true then whF c b (choose h) ρ else .stuck
theorem whM_eq {c : EM Bool} {b : SM} {n : Nat} {ρ : Ev} (h : (whF c b n ρ).live = true) : whM c b ρ = whF c b n ρ := by
  unfold whM
  have hx : ∃ n, (whF c b n ρ).live = true := ⟨n, h⟩
  rw [dif_pos hx]
  have h2 := Classical.choose_spec hx
  have e1 := whF_le h (Classical.choose hx)
  have e2 := whF_le h2 n
  rw [← e1, ← e2, Nat.add_comm]
theorem whM_live {c : EM Bool} {b : SM} {ρ : Ev} (h : (whM c b ρ).live = true) : ∃ n, (whF c b n ρ).live = true ∧ whM c b ρ = whF c b n ρ := by
  by_cases hx : ∃ n, (whF c b n ρ).live = true
  · obtain ⟨n, hn⟩ := hx
    exact ⟨n, hn, whM_eq hn⟩
  · unfold whM at h
    rw [dif_neg hx] at h
    cases h
theorem Ks.live {o : SO} {G H : Hp} {σ : St} {ρ : Ev} {E : Ends} (h : Ks D W o G H σ ρ E) : o.live = true := by
  cases o with
  | stuck => exact False.elim h
  | _ => rfl
theorem while_le {c : EM Bool} (E : Ends) (σ : St) (H : Hp) (h : tS D W (whM c sb') E σ H) : tWhile (tB D W c) (tS D W sb') E σ H := by
  obtain ⟨G, ρ, A, k⟩ := h
  obtain ⟨n, hn, en⟩ := whM_live k.live
  rw [en] at k
  refine ⟨fun m σ H => tS D W (whF c sb' m) E σ H, ⟨n, G, ρ, A, k⟩, ?_⟩
  rintro m σ H ⟨G, ρ, A, k⟩
  cases m with
  | zero => exact False.elim k
  | succ m =>
    refine ⟨G, ρ, A, (Ks.to (show Ks D W ((c ρ).to _) G H σ ρ E from k)).mono fun x ρ1 G1 H1 n1 k1 => ?_⟩
    cases x with
    | false => rw [if_neg Bool.false_ne_true]; exact k1 G1 H1 σ (Nx.refl n1.abs)
    | true =>
      rw [if_pos rfl]
      refine ⟨fun σ' H' => tS D W (whF c sb' m) E σ' H', fun σ' H' h => ⟨m, Nat.lt_succ_self m, h⟩, G1, ρ1, n1.abs, ?_⟩
      have k2 := Ks.loop (G0 := G1) (fun _ _ h => h) k1
      revert k2
      cases sb' ρ1 with
      | nxt ρ' => exact fun k2 G' H' σ' n => let ⟨G2, ρ2, _, h⟩ := k2 G' H' σ' n; ⟨G2, ρ2, h⟩
      | cnt ρ' => exact fun k2 G' H' σ' n => let ⟨G2, ρ2, _, h⟩ := k2 G' H' σ' n; ⟨G2, ρ2, h⟩
      | _ => exact fun k2 => k2
theorem s_while {c : Expr} {tc : EM Bool} (hp : PassesOwn (model X.prog X.w) X.A X.env X.xe) (hc : RB D W X c tc) (hb : RSs D W X body sb') : RS D W X (.While c body [] pos) (whM tc sb') :=
  (ps_while hp hc hb).imp while_le

/-! ### a def by its body -/
def back : List Slot → Ev → List Slot
  | .own _ _ :: as, s :: ρ => s :: back as ρ
  | a :: as, _ :: ρ => a :: back as ρ
  | as, _ => as
/-- the pure meaning of a def of n parameters and N names -/
def fnM (n N : Nat) (body : SM) : FM := fun as => if as.length = n then (match body (as ++ List.replicate (N - n) .non) with
  | .nxt ρ => .ok (.v .non) (back as ρ)
  | .ret r ρ => .ok r (back as ρ)
  | .exc e ρ => .exc e (back as ρ)
  | _ => .stuck) else .stuck
end
end TR

set_option Elab.async false
set_option linter.all false
set_option maxRecDepth 100000
/-! TRJ: a def keeps the promise of its pure meaning. -/
namespace TR
open PySem PySem.Spec L2
set_option autoImplicit false
section
variable {D : Wd}
theorem argsOk_get : ∀ {as : List Slot} {i : Nat} {s : Slot}, argsOk as = true → as[i]? = some s → (∃ x, s = .val x) ∨ ∃ m, s = .own true m
  | [], _, _, _, e => by simp at e
  | .val x :: r, 0, s, h, e => by simp at e; exact .inl ⟨x, e.symm⟩
  | .val x :: r, i + 1, s, h, e => argsOk_get (as := r) h (by simpa using e)
  | .own true m :: r, 0, s, h, e => by simp at e; exact .inr ⟨m, e.symm⟩
  | .own true m :: r, i + 1, s, h, e => argsOk_get (as := r) h (by simpa using e)
  | .own false m :: r, _, s, h, e => by cases h
  | .non :: r, _, s, h, e => by cases h
  | .exn _ :: r, _, s, h, e => by cases h
theorem back_get : ∀ {as : List Slot} {ρ : Ev} {i : Nat} {s : Slot}, as.length ≤ ρ.length → as[i]? = some s → (back as ρ)[i]? = match s with
    | .own _ _ => ρ[i]?
    | s => some s
  | [], _, _, _, _, e => by simp at e
  | a :: r, [], _, _, l, e => by simp at l
  | .own b m :: r, t :: ρ, 0, s, l, e => by simp at e; subst e; rfl
  | .val x :: r, t :: ρ, 0, s, l, e => by simp at e; subst e; rfl
  | .non :: r, t :: ρ, 0, s, l, e => by simp at e; subst e; rfl
  | .exn x :: r, t :: ρ, 0, s, l, e => by simp at e; subst e; rfl
  | .exn x :: r, t :: ρ, i + 1, s, l, e => by
    show (Slot.exn x :: back r ρ)[i + 1]? = _
    simpa using back_get (as := r) (ρ := ρ) (i := i) (by simpa using l) (by simpa using e)
  | .own b m :: r, t :: ρ, i + 1, s, l, e => by
    show (t :: back r ρ)[i + 1]? = _
    simpa using back_get (as := r) (ρ := ρ) (i := i) (by simpa using l) (by simpa using e)
  | .val x :: r, t :: ρ, i + 1, s, l, e => by
    show (Slot.val x :: back r ρ)[i + 1]? = _
    simpa using back_get (as := r) (ρ := ρ) (i := i) (by simpa using l) (by simpa using e)
  | .non :: r, t :: ρ, i + 1, s, l, e => by
    show (Slot.non :: back r ρ)[i + 1]? = _
    simpa using back_get (as := r) (ρ := ρ) (i := i) (by simpa using l) (by simpa using e)
theorem back_len : ∀ {as : List Slot} {ρ : Ev}, as.length ≤ ρ.length → (back as ρ).length = as.length
  | [], _, _ => rfl
  | a :: r, [], l => by simp at l
  | .own b m :: r, t :: ρ, l => by
    show (t :: back r ρ).length = _
    simp [back_len (as := r) (ρ := ρ) (by simpa using l)]
  | .val x :: r, t :: ρ, l => by
    show (Slot.val x :: back r ρ).length = _
    simp [back_len (as := r) (ρ := ρ) (by simpa using l)]
  | .exn x :: r, t :: ρ, l => by
    show (Slot.exn x :: back r ρ).length = _
    simp [back_len (as := r) (ρ := ρ) (by simpa using l)]
  | .non :: r, t :: ρ, l => by
    show (Slot.non :: back r ρ).length = _
    simp [back_len (as := r) (ρ := ρ) (by simpa using l)]
/-- the frame's slots at the entry -/
def enter (N : Nat) (as : List Slot) : Ev := as ++ List.replicate (N - as.length) .non
theorem enter_get {N : Nat} {as : List Slot} {i : Nat} {s : Slot} (h : (enter N as)[i]? = some s) : as[i]? = some s ∨ s = .non := by
  unfold enter at h
  rw [List.getElem?_append] at h
  split at h
  · exact .inl h
  · rw [List.getElem?_replicate] at h
    split at h
    · cases h; exact .inr rfl
    · cases h
theorem abs_enter {G H : Hp} {N : List Str} {vs : List V} {as : List Slot} (hn : as.length ≤ N.length) (A : Abs D G H (vs.map some) as) : Abs D G H (L2.start N vs) (enter N.length as) := by
  have hl : vs.length = as.length := by have := A.len; rwa [List.length_map] at this
  have sg : ∀ {i : Nat}, i < as.length → (L2.start N vs)[i]? = (vs.map some)[i]? := fun h => by
    unfold L2.start
    rw [List.getElem?_append_left (by rw [List.length_map, hl]; exact h)]
  refine ⟨A.le, ?_, fun i s h => ?_, fun i j b m b' m' a h1 h2 h3 h4 => ?_⟩
  · unfold L2.start enter
    rw [List.length_append, List.length_append, List.length_map, List.length_replicate, List.length_replicate, hl]
  · rcases enter_get h with h | rfl
    · rw [sg (List.getElem?_eq_some_iff.mp h).1]; exact A.sl i s h
    · trivial
  · rcases enter_get h1 with h1 | h1
    · rcases enter_get h2 with h2 | h2
      · rw [sg (List.getElem?_eq_some_iff.mp h1).1] at h3
        rw [sg (List.getElem?_eq_some_iff.mp h2).1] at h4
        exact A.inj i j b m b' m' a h1 h2 h3 h4
      · cases h2
    · cases h1
theorem nx_back {G H G' H' : Hp} {N : List Str} {vs : List V} {as : List Slot} {σ' : St} {ρ' : Ev} (hn : as.length ≤ N.length) (ok : argsOk as = true) (A : Abs D G H (vs.map some) as)
    (n : Nx D G H (L2.start N vs) (enter N.length as) G' H' σ' ρ') (hl' : as.length ≤ ρ'.length) : Nx D G H (vs.map some) as G' H' (vs.map some) (back as ρ') := by
  have hl : vs.length = as.length := by have := A.len; rwa [List.length_map] at this
  have sg : ∀ {i : Nat}, i < as.length → (L2.start N vs)[i]? = (vs.map some)[i]? := fun h => by
    unfold L2.start
    rw [List.getElem?_append_left (by rw [List.length_map, hl]; exact h)]
  have eg : ∀ {i : Nat}, i < as.length → (enter N.length as)[i]? = as[i]? := fun h => by
    unfold enter
    rw [List.getElem?_append_left h]
  -- an own slot behind the call
  have own : ∀ (i : Nat) (b : Bool) (m' : MO), (back as ρ')[i]? = some (.own b m') → b = true ∧ (∃ m, as[i]? = some (.own true m)) ∧ ρ'[i]? = some (.own true m') ∧ σ'[i]? = (vs.map some)[i]? := fun i b m' h => by
    have hi : i < as.length := by rw [← back_len hl']; exact (List.getElem?_eq_some_iff.mp h).1
    have e := List.getElem?_eq_getElem hi
    rcases argsOk_get ok e with ⟨x, z⟩ | ⟨m, z⟩
    · rw [z] at e
      rw [back_get hl' e] at h
      cases h
    · rw [z] at e
      rw [back_get hl' e] at h
      obtain ⟨⟨m2, e2⟩, e3⟩ := n.br i m ((eg hi).trans e)
      have h' : ρ'[i]? = some (.own b m') := h
      rw [e2] at h'
      cases h'
      exact ⟨rfl, ⟨m, e⟩, e2, e3.trans (sg hi)⟩
  have ow : ∀ {a : Addr}, Ow (L2.start N vs) (enter N.length as) a → Ow (vs.map some) as a := fun {a} ⟨i, b, m, h, f⟩ => by
    rcases enter_get h with h | h
    · rw [sg (List.getElem?_eq_some_iff.mp h).1] at f; exact ⟨i, b, m, h, f⟩
    · cases h
  have owF : ∀ {a : Addr}, OwF (L2.start N vs) (enter N.length as) a → OwF (vs.map some) as a := fun {a} ⟨i, m, h, f⟩ => by
    rcases enter_get h with h | h
    · rw [sg (List.getElem?_eq_some_iff.mp h).1] at f; exact ⟨i, m, h, f⟩
    · cases h
  refine ⟨⟨n.abs.le, by rw [back_len hl', List.length_map, hl], fun i s h => ?_, fun i j b m b' m' a h1 h2 h3 h4 => ?_⟩, n.g, fun a o h no => n.k a o h fun w => no (ow w), n.d, fun a u h => ?_, fun a h => ?_, fun i m h => ?_, fun i m h => ?_⟩
  · have hi : i < as.length := by rw [← back_len hl']; exact (List.getElem?_eq_some_iff.mp h).1
    have e := List.getElem?_eq_getElem hi
    rcases argsOk_get ok e with ⟨x, z⟩ | ⟨m, z⟩
    · rw [z] at e
      rw [back_get hl' e] at h
      cases h
      obtain ⟨v, e1, r⟩ := A.val e
      exact ⟨v, e1, r.mono n.leg⟩
    · rw [z] at e
      rw [back_get hl' e] at h
      have h' : ρ'[i]? = some s := h
      obtain ⟨⟨m2, e2⟩, e3⟩ := n.br i m ((eg hi).trans e)
      rw [← sg hi, ← e3]
      exact n.abs.sl i s h'
  · obtain ⟨_, _, e1, f1⟩ := own i b m h1
    obtain ⟨_, _, e2, f2⟩ := own j b' m' h2
    exact n.abs.inj i j _ _ _ _ a e1 e2 (f1.trans h3) (f2.trans h4)
  · rcases n.f a u h with h | h | h
    · exact .inl h
    · exact .inr (.inl h)
    · exact .inr (.inr (owF h))
  · obtain ⟨i, b, m, h1, h2⟩ := h
    obtain ⟨_, ⟨m0, e0⟩, e1, f1⟩ := own i b m h1
    exact .inl ⟨i, true, m0, e0, h2⟩
  · have hi : i < as.length := (List.getElem?_eq_some_iff.mp h).1
    obtain ⟨⟨m2, e2⟩, e3⟩ := n.br i m ((eg hi).trans h)
    exact ⟨⟨m2, by rw [back_get hl' h]; exact e2⟩, rfl⟩
  · obtain ⟨_, ⟨m0, e0⟩, _⟩ := own i true m h
    exact ⟨m0, e0⟩
theorem ret_back {G H G' H' : Hp} {N : List Str} {vs : List V} {as : List Slot} {r : Ret} {v : V} (ok : argsOk as = true) (h : RetR D G H (L2.start N vs) (enter N.length as) G' H' r v) : RRep D G H G' H' r v := by
  cases r with
  | v x => exact h
  | o m =>
    obtain ⟨a, e, g, f, q⟩ := h
    refine ⟨a, e, g, ?_, q⟩
    rcases f with f | ⟨i, m, h1, _⟩
    · exact f
    · rcases enter_get h1 with h1 | h1
      · rcases argsOk_get ok h1 with ⟨x, z⟩ | ⟨m, z⟩
        · cases z
        · cases z
      · cases h1
end
/-- the pure meaning of a def of n parameters and N names -/
def fnB (n N : Nat) (body : SM) : FM := fun as => if as.length = n then (match body (enter N as) with
  | .nxt ρ => if n ≤ ρ.length then .ok (.v .non) (back as ρ) else .stuck
  | .ret r ρ => if n ≤ ρ.length then .ok r (back as ρ) else .stuck
  | .exc e ρ => if n ≤ ρ.length then .exc e (back as ρ) else .stuck
  | _ => .stuck) else .stuck
section
variable {P : Program} {w : World} {K : PySem.W.Frag} {mg : Str → Option Value} {base : Heap} {D : Wd}
theorem body_le {n : Nat} {N : List Str} {body : SM} (hn : n ≤ N.length) {vs : List V} {H : Hp} {Q : VK} {E : XK} (h : FSp D (fnB n N.length body) vs H Q E) :
    tS D (fun c d _ H => E c d H) body { nx := fun _ H' => Q .non H', rt := Q } (L2.start N vs) H := by
  obtain ⟨G, as, ok, A, k⟩ := h
  by_cases hl : as.length = n
  · have hN : as.length ≤ N.length := by rw [hl]; exact hn
    refine ⟨G, enter N.length as, abs_enter hN A, ?_⟩
    unfold fnB at k
    rw [if_pos hl] at k
    cases hb : body (enter N.length as) with
    | nxt ρ' =>
      by_cases h1 : n ≤ ρ'.length
      · simp only [hb, if_pos h1] at k
        exact fun G' H' σ' n1 => k G' H' _ (nx_back hN ok A n1 (by rw [hl]; exact h1)) rfl
      · simp only [hb, if_neg h1] at k
    | ret r' ρ' =>
      by_cases h1 : n ≤ ρ'.length
      · simp only [hb, if_pos h1] at k
        exact fun G' H' σ' v n1 rr => k G' H' _ (nx_back hN ok A n1 (by rw [hl]; exact h1)) (ret_back ok rr)
      · simp only [hb, if_neg h1] at k
    | exc e ρ' =>
      by_cases h1 : n ≤ ρ'.length
      · simp only [hb, if_pos h1] at k
        exact fun G' H' σ' c d n1 er => k G' H' c d (nx_back hN ok A n1 (by rw [hl]; exact h1)) er
      · simp only [hb, if_neg h1] at k
    | _ => simp only [hb] at k
  · unfold fnB at k
    rw [if_neg hl] at k
    exact k.elim
theorem fsp_len {n : Nat} {N : Nat} {body : SM} {vs : List V} {H : Hp} {Q : VK} {E : XK} (h : FSp D (fnB n N body) vs H Q E) : vs.length = n := by
  obtain ⟨G, as, ok, A, k⟩ := h
  have := A.len
  rw [List.length_map] at this
  by_cases hl : as.length = n
  · omega
  · unfold fnB at k
    rw [if_neg hl] at k
    exact k.elim
/-- the context of a def's body, in short -/
abbrev cxB (P : Program) (w : World) (K : PySem.W.Frag) (mg : Str → Option Value) (base : Heap) (N : List Str) (qual : Str) (scope : Scope) (f : Addr) (cdv : Value) (A : Around) (outer : List Env) (s : Shared) (H : Hp) (E : XK) : Cx := cxOf (L2.CX P w) P w K mg base N qual scope f cdv A outer s H E
theorem fn_ok {x qual : Str} {st : Stmt} {f : Addr} {fd : FuncData} {N ps : List Str} {k n : Nat} {body : SM} (F : Fun K x qual st f fd) (S : FnScope N ps (defScope st)) (hn : ps.length = n) (hN : n ≤ N.length)
    (hb : ∀ (cdv : Value) (A : Around) (outer : List Env) (s : Shared) (H : Hp) (E : XK), Room k (A.deeper (PyProof.Rows.envOfC qual (defScope st) s.heap.objs.size f cdv)) → RSs D (fun c d _ H => E c d H) (cxB P w K mg base N qual (defScope st) f cdv A outer s H E) (defBody st) body) :
    FnOk P w K mg base (L2.CX P w) (k + 1) f fd ps (FSp D (fnB n N.length body)) :=
  F.okX S (fun vs H Q E h => (fsp_len h).trans hn.symm) fun cdv A outer s H vs Q E hr h => ⟨_, hb cdv A outer s H E hr, body_le hN h⟩
end
end TR

set_option Elab.async false
set_option linter.all false
set_option maxRecDepth 100000
/-! TRK: targets, what is walked, for, comprehensions. -/
namespace TR
open PySem PySem.Spec L2
set_option autoImplicit false
abbrev Tg := PV → Ev → Option Ev
def tgN (i : Nat) : Tg := fun x ρ => if mayPut ρ i then some (ρ.set i (.val x)) else none
def putsT : List Nat → List PV → Ev → Option Ev
  | [], [], ρ => some ρ
  | i :: is, x :: xs, ρ => (tgN i x ρ).bind (putsT is xs)
  | _, _, _ => none
/-- a tuple of names; what comes is a tuple -/
def tgT (is : List Nat) : Tg := fun x ρ => match x with
  | .tup xs => putsT is xs ρ
  | _ => none
/-- .. a list or a tuple -/
def tgL (is : List Nat) : Tg := fun x ρ => match x with
  | .lst xs => putsT is xs ρ
  | _ => none
def W0 : WX := fun _ _ _ _ => False
def TgX (D : Wd) (g : TG) (tg : Tg) (vs : List Nat) : Prop := ∀ (G H : Hp) (σ : St) (ρ : Ev) (x : PV) (v : V) (ρ' : Ev) (Q : St → Hp → Prop), Abs D G H σ ρ → Rep D G x v → tg x ρ = some ρ' →
  (∀ σ', σ'.length = σ.length → (∀ i, i ∉ vs → σ'[i]? = σ[i]?) → Nx D G H σ ρ G H σ' ρ' → Q σ' H) → g v σ H Q
section
variable {D : Wd} {W : WX} {X : Cx} {a b c e o ix : Expr} {es : List Expr} {pos p2 p : Pos} {m m1 m2 : EM PV} {ms : EM (List AV)} {st : Stmt} {rest sa sb body : List Stmt} {s1 s2 sb' : SM} {t : EM Bool}
theorem tgN_some {i : Nat} {x : PV} {ρ ρ' : Ev} (h : tgN i x ρ = some ρ') : mayPut ρ i = true ∧ ρ' = ρ.set i (.val x) := by
  unfold tgN at h
  split at h
  · rename_i h1
    cases h
    exact ⟨h1, rfl⟩
  · cases h
theorem tgx_name {i : Nat} {vs : List Nat} (hi : i ∈ vs) : TgX D (gName i) (tgN i) vs := by
  intro G H σ ρ x v ρ' Q A r e k
  obtain ⟨h1, rfl⟩ := tgN_some e
  exact k _ (by rw [List.length_set]) (fun j hj => List.getElem?_set_ne (by rintro rfl; exact hj hi)) (abs_putV A r (mayPut_no h1))
/-- the targets of a tuple -/
inductive GsOk : TGs → List Nat → Prop
  | nil : GsOk gNil []
  | cons {i : Nat} {is : List Nat} {u : TGs} (h : GsOk u is) : GsOk (gCons (gName i) u) (i :: is)
theorem puts_ok {u : TGs} {is vs : List Nat} (g : GsOk u is) (hv : ∀ i ∈ is, i ∈ vs) : ∀ {G H : Hp} {σ : St} {ρ : Ev} {xs : List PV} {ws : List V} {ρ' : Ev} {Q : St → Hp → Prop}, Abs D G H σ ρ → Reps D G xs ws → putsT is xs ρ = some ρ' →
    (∀ σ', σ'.length = σ.length → (∀ i, i ∉ vs → σ'[i]? = σ[i]?) → Nx D G H σ ρ G H σ' ρ' → Q σ' H) → u ws σ H Q := by
  induction g with
  | nil =>
    intro G H σ ρ xs ws ρ' Q A r e k
    cases xs with
    | nil =>
      rw [show ws = [] from r]
      cases e
      exact ⟨rfl, k σ rfl (fun _ _ => rfl) (Nx.refl A)⟩
    | cons x xs => cases e
  | cons h ih =>
    rename_i i is u
    intro G H σ ρ xs ws ρ' Q A r e k
    cases xs with
    | nil => cases e
    | cons x xs =>
      obtain ⟨v, ws', rfl, r1, r2⟩ := r
      rw [putsT] at e
      cases q : tgN i x ρ with
      | none => rw [q] at e; cases e
      | some ρ1 =>
        rw [q] at e
        refine ⟨v, ws', rfl, tgx_name (vs := vs) (hv i List.mem_cons_self) G H σ ρ x v ρ1 _ A r1 q fun σ1 l1 s1 n1 => ?_⟩
        exact ih (fun j hj => hv j (List.mem_cons_of_mem _ hj)) n1.abs r2 e fun σ2 l2 s2 n2 => k σ2 (l2.trans l1) (fun j hj => (s2 j hj).trans (s1 j hj)) (n1.trans n2)
theorem putsT_len : ∀ {is : List Nat} {xs : List PV} {ρ ρ' : Ev}, putsT is xs ρ = some ρ' → xs.length = is.length
  | [], [], _, _, _ => rfl
  | [], _ :: _, _, _, h => by cases h
  | _ :: _, [], _, _, h => by cases h
  | i :: is, x :: xs, ρ, ρ', h => by
    rw [putsT] at h
    cases q : tgN i x ρ with
    | none => rw [q] at h; cases h
    | some ρ1 => rw [q] at h; simp [putsT_len (is := is) (xs := xs) h]
theorem tgx_tup {u : TGs} {is vs : List Nat} (g : GsOk u is) (hv : ∀ i ∈ is, i ∈ vs) : TgX D (gTup D.K is.length u) (tgT is) vs := by
  intro G H σ ρ x v ρ' Q A r e k
  unfold tgT at e
  split at e
  · rename_i xs
    obtain ⟨ad, ws, rfl, hs, rs⟩ := r
    exact ⟨ad, ws, rfl, sqT_mono A.le hs, by rw [rs.length]; exact putsT_len e, puts_ok g hv A rs e k⟩
  · cases e

/-! ### what is walked -/
def JOk (D : Wd) (G0 : Hp) (J : It) (xs : List PV) : Prop := ∀ (G H : Hp), (∀ a u, G0 a = some u → G a = some u) → LeG G H → ∀ i : Nat,
  (i < xs.length → J.go i H ∧ ∀ v H', J.yld i H v H' → ∃ G' y, xs[i]? = some y ∧ Grow G H G' H' ∧ Rep D G' y v) ∧ (xs.length ≤ i → J.stop i H)
def tI (D : Wd) (W : WX) (m : EM (List PV)) : TI := fun σ H R => ∃ G ρ, Abs D G H σ ρ ∧ Kg D W (m ρ) G H σ ρ fun xs ρ' G' H' => ∀ J, JOk D G' J xs → R J H'
abbrev RI (D : Wd) (W : WX) (X : Cx) (tg e : Expr) (m : EM (List PV)) : Prop := PI X tg e (tI D W m)
theorem _root_.L2.PI.imp {X : Cx} {tg e : Expr} {t t' : TI} (h : PI X tg e t) (i : ∀ σ H Q, t' σ H Q → t σ H Q) : PI X tg e t' := ⟨fun pins s σ H Q I w => h.run pins s σ H Q I (i _ _ _ w)⟩
theorem j_list {G0 : Hp} {ad : Addr} {xs : List PV} {ws : List V} (s : SqL D.K G0 ad ws) (r : Reps D G0 xs ws) : JOk D G0 (Itl D.K ad) xs := by
  intro G H g le i
  have s' : SqL D.K H ad ws := sqL_mono le (sqL_mono (LeG.of_same g) s)
  refine ⟨fun hi => ?_, fun hi => ⟨ws, s', by rw [r.length]; exact hi⟩⟩
  obtain ⟨w, e1, e2⟩ := r.get (List.getElem?_eq_getElem hi)
  refine ⟨⟨ws, w, s', e1⟩, fun v H' ⟨eH, y⟩ => ?_⟩
  subst eH
  have := y ws s'
  rw [e1] at this; cases this
  exact ⟨G, _, List.getElem?_eq_getElem hi, Grow.refl le, e2.mono (LeG.of_same g)⟩
theorem j_tup {G0 : Hp} {ad : Addr} {xs : List PV} {ws : List V} (s : SqT D.K G0 ad ws) (r : Reps D G0 xs ws) : JOk D G0 (Itt D.K ad) xs := by
  intro G H g le i
  have s' : SqT D.K H ad ws := sqT_mono le (sqT_mono (LeG.of_same g) s)
  refine ⟨fun hi => ?_, fun hi => ⟨ws, s', by rw [r.length]; exact hi⟩⟩
  obtain ⟨w, e1, e2⟩ := r.get (List.getElem?_eq_getElem hi)
  refine ⟨⟨ws, w, s', e1⟩, fun v H' ⟨eH, y⟩ => ?_⟩
  subst eH
  have := y ws s'
  rw [e1] at this; cases this
  exact ⟨G, _, List.getElem?_eq_getElem hi, Grow.refl le, e2.mono (LeG.of_same g)⟩
def chrs (z : Str) : List PV := z.cps.toList.map fun c => .str ⟨#[c]⟩
theorem j_str {G0 : Hp} {z : Str} : JOk D G0 (Its z) (chrs z) := by
  intro G H g le i
  have hl : (chrs z).length = z.cps.size := by simp [chrs]
  refine ⟨fun hi => ⟨(by show i < z.cps.size; omega), fun v H' ⟨eH, c, hc, ev⟩ => ?_⟩, fun hi => (by show z.cps.size ≤ i; omega)⟩
  subst eH; subst ev
  refine ⟨G, .str ⟨#[c]⟩, ?_, Grow.refl le, rfl⟩
  unfold chrs
  rw [List.getElem?_map, Array.getElem?_toList, hc]
  rfl
theorem rng_get : ∀ {lo : Int} {n i : Nat}, i < n → (rng lo n)[i]? = some (.int (lo + i))
  | lo, 0, i, h => by omega
  | lo, n + 1, 0, h => by simp [rng]
  | lo, n + 1, i + 1, h => by
    rw [rng, List.getElem?_cons_succ, rng_get (by omega)]
    congr 2
    omega
theorem rng_len : ∀ {lo : Int} {n : Nat}, (rng lo n).length = n
  | lo, 0 => rfl
  | lo, n + 1 => by rw [rng, List.length_cons, rng_len]
theorem j_rng {G0 : Hp} {lo : Int} {n : Nat} : JOk D G0 (Itr lo n) (rng lo n) := by
  intro G H g le i
  rw [rng_len]
  refine ⟨fun hi => ⟨hi, fun v H' ⟨eH, ev⟩ => ?_⟩, fun hi => hi⟩
  subst eH; subst ev
  exact ⟨G, _, rng_get hi, Grow.refl le, rfl⟩
/-- the items of a value -/
def itV (m : EM PV) : EM (List PV) := fun ρ => (m ρ).bind fun x ρ => match x with
  | .lst xs => .ok xs ρ
  | .tup xs => .ok xs ρ
  | .str s => .ok (chrs s) ρ
  | _ => .stuck
theorem ri_v {tg : Expr} (hK : D.K = X.K) (h : RE D W X e m) : RI D W X tg e (itV m) := (pi_seq h).imp (hK ▸ fun σ H R ⟨G, ρ, A, k⟩ => ⟨G, ρ, A, (Kg.bind k).mono fun x ρ1 G1 H1 n1 k1 v rv => by
  cases x with
  | lst xs =>
    obtain ⟨ad, ws, rfl, s, r⟩ := rv
    exact .inl ⟨ad, ws, rfl, sqL_mono n1.abs.le s, k1 G1 H1 (Nx.refl n1.abs) _ (j_list s r)⟩
  | tup xs =>
    obtain ⟨ad, ws, rfl, s, r⟩ := rv
    exact .inr (.inl ⟨ad, ws, rfl, sqT_mono n1.abs.le s, k1 G1 H1 (Nx.refl n1.abs) _ (j_tup s r)⟩)
  | str z =>
    cases rv
    exact .inr (.inr ⟨z, rfl, k1 G1 H1 (Nx.refl n1.abs) _ j_str⟩)
  | _ => exact False.elim k1⟩)
def itR1 (m : EM PV) : EM (List PV) := fun ρ => (m ρ).bind fun x ρ => match x with
  | .int j => if okR j then .ok (rng 0 j.toNat) ρ else .stuck
  | _ => .stuck
def itR2 (m1 m2 : EM PV) : EM (List PV) := fun ρ => (m1 ρ).bind fun x ρ => (m2 ρ).bind fun y ρ => match x with
  | .int i => (match y with
    | .int j => if okR i && okR j then .ok (rng i (j - i).toNat) ρ else .stuck
    | _ => .stuck)
  | _ => .stuck
theorem ri_r1 {tg : Expr} (hg' : Gl X "range") (hm' : X.mg "range" = none) (ha : RE D W X a m) (hst : starEach [a] X.env = [(false, eval a X.env)] := by rfl) : RI D W X tg (.Call (.Name "range" p) [a] [] p2) (itR1 m) :=
  (pi_range1 hg' hm' (pa_cons ha pa_nil hst) hst).imp fun σ H R ⟨G, ρ, A, k⟩ => ⟨G, ρ, A, (Kg.bind k).mono fun x ρ1 G1 H1 n1 k1 v rv => by
    cases x with
    | int j =>
      cases rv
      simp only at k1
      split at k1
      · rename_i h
        obtain ⟨h1, h2⟩ := okR_of h
        exact ⟨j, rfl, h1, h2, k1 G1 H1 (Nx.refl n1.abs) _ j_rng⟩
      · exact False.elim k1
    | _ => exact False.elim k1⟩
theorem ri_r2 {tg : Expr} (hg' : Gl X "range") (hm' : X.mg "range" = none) (ha : RE D W X a m1) (hb' : RE D W X b m2) (hst : starEach [a, b] X.env = [(false, eval a X.env), (false, eval b X.env)] := by rfl) (hst2 : starEach [b] X.env = [(false, eval b X.env)] := by rfl) :
    RI D W X tg (.Call (.Name "range" p) [a, b] [] p2) (itR2 m1 m2) :=
  (pi_range2 hg' hm' (pa_cons ha (pa_cons hb' pa_nil hst2) (by rw [hst2]; exact hst)) hst hst2).imp fun σ H R ⟨G, ρ, A, k⟩ => ⟨G, ρ, A, (Kg.bind k).mono fun x ρ1 G1 H1 n1 k1 v rv => ⟨G1, ρ1, n1.abs, (Kg.bind k1).mono fun y ρ2 G2 H2 n2 k2 w rw' => by
    cases x with
    | int i =>
      cases rv
      cases y with
      | int j =>
        cases rw'
        simp only at k2
        split at k2
        · rename_i h
          rw [Bool.and_eq_true] at h
          obtain ⟨h1, h2⟩ := okR_of h.1
          obtain ⟨h3, h4⟩ := okR_of h.2
          exact ⟨i, j, rfl, ⟨h1, h2, h3, h4⟩, k2 G2 H2 (Nx.refl n2.abs) _ j_rng⟩
        · exact False.elim k2
      | _ => exact False.elim k2
    | _ => exact False.elim k2⟩⟩

/-! ### for -/
def frL (tg : Tg) (body : SM) : List PV → SM
  | [] => fun ρ => .nxt ρ
  | x :: xs => fun ρ => match tg x ρ with
    | some ρ1 => loopK (frL tg body xs) (body ρ1)
    | none => .stuck
def frM (m : EM (List PV)) (tg : Tg) (body : SM) : SM := fun ρ => (m ρ).to fun xs ρ => frL tg body xs ρ
theorem frM_le {g : TG} {tg : Tg} {vs : List Nat} (tk : TgX D g tg vs) {mi : EM (List PV)} (E : Ends) (σ : St) (H : Hp) (h : tS D W (frM mi tg sb') E σ H) : tFor (tI D W mi) g (tS D W sb') E σ H := by
  obtain ⟨G, ρ, A, k⟩ := h
  refine ⟨G, ρ, A, (Ks.to k).mono fun xs ρ1 G1 H1 n1 k1 J jok => ?_⟩
  refine ⟨fun i m σ H => m = xs.length - i ∧ i ≤ xs.length ∧ tG D W G1 (frL tg sb' (xs.drop i)) E σ H, ⟨_, rfl, Nat.zero_le _, G1, ρ1, fun _ _ h => h, n1.abs, k1⟩, ?_⟩
  rintro i m σ H ⟨rfl, hi, G2, ρ2, g0, A2, k2⟩
  by_cases hlt : i < xs.length
  · obtain ⟨go, yl⟩ := (jok G2 H g0 A2.le i).1 hlt
    refine .inr ⟨go, tG D W G1 (frL tg sb' (xs.drop (i + 1))) E, fun σ' H' h' => ⟨xs.length - (i + 1), by omega, rfl, hlt, h'⟩, fun v H' y => ?_⟩
    obtain ⟨G3, x, ex, gr, rx⟩ := yl v H' y
    have n3 := A2.grow gr
    rw [List.drop_eq_getElem_cons hlt] at k2
    have ee := List.getElem?_eq_getElem hlt
    have hx : xs[i] = x := by rw [ex] at ee; exact (Option.some.inj ee).symm
    rw [hx] at k2
    have k3 : Ks D W (match tg x ρ2 with
      | some ρ1 => loopK (frL tg sb' (xs.drop (i + 1))) (sb' ρ1)
      | none => .stuck) G2 H σ ρ2 E := k2
    cases q : tg x ρ2 with
    | none => rw [q] at k3; exact False.elim k3
    | some ρ3 =>
      rw [q] at k3
      refine tk G3 H' σ ρ2 x v ρ3 _ n3.abs rx q fun σ' l' s' n4 => ?_
      refine ⟨G3, ρ3, n4.abs, ?_⟩
      exact Ks.loop (fun a u h => n4.g a u (n3.g a u (g0 a u h))) (Ks.from (n3.trans n4) k3)
  · refine .inl ⟨(jok G2 H g0 A2.le i).2 (by omega), ?_⟩
    rw [List.drop_eq_nil_of_le (by omega)] at k2
    exact k2 G2 H σ (Nx.refl A2)
theorem s_fr {tgt iter : Expr} {g : TG} {tg : Tg} {vs : List Nat} {mi : EM (List PV)} (hp : PassesOwn (model X.prog X.w) X.A X.env X.xe) (hc : X.calm = true) (hi : RI D W X tgt iter mi) (hg : PG X tgt g) (tk : TgX D g tg vs) (hb : RSs D W X body sb')
    (hs : ∀ x, foldedSetIterable iter X.env x = pure x := by intro _; rfl) : RS D W X (.For tgt iter body [] pos) (frM mi tg sb') :=
  (ps_for hp hc hi hg hb hs).imp (frM_le tk)
/-- target = e, the target of any form -/
def setT (m : EM PV) (tg : Tg) : SM := fun ρ => (m ρ).to fun x ρ => match tg x ρ with
  | some ρ1 => .nxt ρ1
  | none => .stuck
theorem s_setT {tgt : Expr} {g : TG} {tg : Tg} {vs : List Nat} (he : RE D W X e m) (hg : PG X tgt g) (tk : TgX D g tg vs) (hs : swapsWithSole [tgt] e pos.line X.env = pure false := by rfl) (hw : swappedStores [tgt] e X.env = pure none := by rfl)
    (h1 : (assignEach [tgt] X.env).map (·.2) = [assign tgt X.env] := by rfl) : RS D W X (.Assign [tgt] e pos) (setT m tg) :=
  (ps_asg he hg hs hw h1).imp fun E σ H ⟨G, ρ, A, k⟩ => ⟨G, ρ, A, (Ks.to k).mono fun x ρ1 G1 H1 n1 k1 v rv => by
    cases q : tg x ρ1 with
    | none => rw [q] at k1; exact False.elim k1
    | some ρ2 =>
      rw [q] at k1
      exact tk G1 H1 σ ρ1 x v ρ2 _ n1.abs rv q fun σ' l' s' n2 => k1 G1 H1 σ' n2⟩
end
end TR

set_option Elab.async false
set_option linter.all false
set_option maxRecDepth 100000
/-! TRL: list comprehensions. -/
namespace TR
open PySem PySem.Spec L2
set_option autoImplicit false
def saveOk (ρ : Ev) (vs : List Nat) : Bool := vs.all fun i => match ρ[i]? with
  | some (.own _ _) => false
  | _ => true
def wipeE (ρ : Ev) : List Nat → Ev
  | [] => ρ
  | v :: vs => (wipeE ρ vs).set v .non
def restE (ρ0 : Ev) : List Nat → Ev → Ev
  | [], ρ => ρ
  | v :: vs, ρ => (restE ρ0 vs ρ).set v (ρ0.getD v .non)
def noX {α : Type} (o : Out α) : Out α := match o with
  | .exc _ _ => .stuck
  | o => o
def cmpL (vs : List Nat) (tg : Tg) (t : EM Bool) (e : EM PV) : List PV → List PV → EM (List PV)
  | [], acc => fun ρ => .ok acc ρ
  | x :: xs, acc => fun ρ => match tg x (wipeE ρ vs) with
    | some ρ1 => (noX (t ρ1)).bind fun b ρ2 => match b with
      | true => (noX (e ρ2)).bind fun y ρ3 => if acc.length < sizeLine then cmpL vs tg t e xs (acc ++ [y]) (restE ρ vs ρ3) else .stuck
      | false => cmpL vs tg t e xs acc (restE ρ vs ρ2)
    | none => .stuck
def cmpM (vs : List Nat) (mi : EM (List PV)) (tg : Tg) (t : EM Bool) (e : EM PV) : EM MO := fun ρ => (mi ρ).bind fun xs ρ => if saveOk ρ vs then (cmpL vs tg t e xs [] ρ).bind fun ys ρ => .ok (.lst ys) ρ else .stuck
section
variable {D : Wd} {G H G1 H1 G' H' : Hp} {σ σ2 : St} {ρ ρ1 ρ4 : Ev}
theorem saveOk_get {vs : List Nat} (h : saveOk ρ vs = true) {i : Nat} (hi : i ∈ vs) {b : Bool} {m : MO} : ρ[i]? ≠ some (.own b m) := fun e => by
  have := List.all_eq_true.mp h i hi
  rw [e] at this
  cases this
theorem wipeE_len : ∀ {vs : List Nat}, (wipeE ρ vs).length = ρ.length
  | [] => rfl
  | v :: vs => by unfold wipeE; rw [List.length_set, wipeE_len]
theorem wipeE_out {i : Nat} : ∀ {vs : List Nat}, i ∉ vs → (wipeE ρ vs)[i]? = ρ[i]?
  | [], _ => rfl
  | v :: vs, h => by
    unfold wipeE
    rw [List.getElem?_set_ne (by rintro rfl; exact h List.mem_cons_self)]
    exact wipeE_out fun z => h (List.mem_cons_of_mem _ z)
theorem wipeE_in {i : Nat} {s : Slot} : ∀ {vs : List Nat}, i ∈ vs → (wipeE ρ vs)[i]? = some s → s = .non
  | [], h, _ => by cases h
  | v :: vs, h, e => by
    unfold wipeE at e
    by_cases q : i = v
    · subst q
      by_cases hl : i < (wipeE ρ vs).length
      · rw [List.getElem?_set_self hl] at e; cases e; rfl
      · rw [List.getElem?_eq_none (by simpa using hl)] at e; cases e
    · rw [List.getElem?_set_ne (Ne.symm q)] at e
      rcases List.mem_cons.mp h with z | z
      · exact absurd z q
      · exact wipeE_in z e
theorem restE_len {ρ0 : Ev} : ∀ {vs : List Nat}, (restE ρ0 vs ρ).length = ρ.length
  | [] => rfl
  | v :: vs => by unfold restE; rw [List.length_set, restE_len]
theorem restE_out {ρ0 : Ev} {i : Nat} : ∀ {vs : List Nat}, i ∉ vs → (restE ρ0 vs ρ)[i]? = ρ[i]?
  | [], _ => rfl
  | v :: vs, h => by
    unfold restE
    rw [List.getElem?_set_ne (by rintro rfl; exact h List.mem_cons_self)]
    exact restE_out fun z => h (List.mem_cons_of_mem _ z)
theorem restE_in {ρ0 : Ev} {i : Nat} {s : Slot} : ∀ {vs : List Nat}, i ∈ vs → (restE ρ0 vs ρ)[i]? = some s → s = ρ0.getD i .non
  | [], h, _ => by cases h
  | v :: vs, h, e => by
    unfold restE at e
    by_cases q : i = v
    · subst q
      by_cases hl : i < (restE ρ0 vs ρ).length
      · rw [List.getElem?_set_self hl] at e; cases e; rfl
      · rw [List.getElem?_eq_none (by simpa using hl)] at e; cases e
    · rw [List.getElem?_set_ne (Ne.symm q)] at e
      rcases List.mem_cons.mp h with z | z
      · exact absurd z q
      · exact restE_in z e
theorem wipe_same {vs : List Nat} {σ' : St} (l : σ'.length = σ.length) (h : ∀ i, i ∉ vs → σ'[i]? = σ[i]?) : wipe σ' vs = wipe σ vs := by
  refine List.ext_getElem? fun i => ?_
  by_cases hi : i ∈ vs
  · have aux : ∀ (vs : List Nat) (τ : St), i ∈ vs → (wipe τ vs)[i]? = if i < τ.length then some none else none := by
      intro vs
      induction vs with
      | nil => intro τ h; cases h
      | cons v vs ih =>
        intro τ h
        unfold wipe
        by_cases q : i = v
        · subst q
          by_cases hl : i < τ.length
          · rw [List.getElem?_set_self (by rw [wipe_length]; exact hl), if_pos hl]
          · rw [List.getElem?_eq_none (by rw [List.length_set, wipe_length]; omega), if_neg hl]
        · rw [List.getElem?_set_ne (Ne.symm q)]
          rcases List.mem_cons.mp h with z | z
          · exact absurd z q
          · exact ih τ z
    rw [aux vs σ' hi, aux vs σ hi, l]
  · rw [wipe_out hi, wipe_out hi, h i hi]
theorem abs_wipe {vs : List Nat} (A : Abs D G H σ ρ) : Abs D G H (wipe σ vs) (wipeE ρ vs) := by
  have own : ∀ (i : Nat) (b : Bool) (m : MO), (wipeE ρ vs)[i]? = some (.own b m) → i ∉ vs ∧ ρ[i]? = some (.own b m) := fun i b m h => by
    by_cases hi : i ∈ vs
    · cases wipeE_in hi h
    · rw [wipeE_out hi] at h; exact ⟨hi, h⟩
  refine ⟨A.le, by rw [wipe_length, wipeE_len]; exact A.len, fun i s h => ?_, fun i j b m b' m' a h1 h2 h3 h4 => ?_⟩
  · by_cases hi : i ∈ vs
    · rw [wipeE_in hi h]; trivial
    · rw [wipeE_out hi] at h
      rw [wipe_out hi]
      exact A.sl i s h
  · obtain ⟨n1, e1⟩ := own i b m h1
    obtain ⟨n2, e2⟩ := own j b' m' h2
    rw [wipe_out n1] at h3
    rw [wipe_out n2] at h4
    exact A.inj i j b m b' m' a e1 e2 h3 h4
/-- a block's step, seen from the frame around it -/
theorem nx_blk {vs : List Nat} (A : Abs D G H σ ρ) (sv : saveOk ρ vs = true) (n : Nx D G H (wipe σ vs) (wipeE ρ vs) G' H' σ2 ρ4) (l : σ2.length = σ.length) (h2 : ∀ i, i ∉ vs → σ2[i]? = σ[i]?) : Nx D G H σ ρ G' H' σ (restE ρ vs ρ4) := by
  have ln : ρ4.length = ρ.length := by rw [← n.abs.len, l, A.len]
  have own : ∀ (i : Nat) (b : Bool) (m : MO), (restE ρ vs ρ4)[i]? = some (.own b m) → i ∉ vs ∧ ρ4[i]? = some (.own b m) := fun i b m h => by
    by_cases hi : i ∈ vs
    · exfalso
      have q := restE_in hi h
      have hl : i < ρ.length := by rw [← ln, ← restE_len (ρ0 := ρ) (vs := vs)]; exact (List.getElem?_eq_some_iff.mp h).1
      refine saveOk_get sv hi (b := b) (m := m) ?_
      rw [List.getD_eq_getElem?_getD] at q
      rw [List.getElem?_eq_getElem hl] at q ⊢
      rw [q]
      rfl
    · rw [restE_out hi] at h; exact ⟨hi, h⟩
  have ow : ∀ {a : Addr}, Ow (wipe σ vs) (wipeE ρ vs) a → Ow σ ρ a := fun {a} ⟨i, b, m, h, f⟩ => by
    by_cases hi : i ∈ vs
    · cases wipeE_in hi h
    · rw [wipeE_out hi] at h
      rw [wipe_out hi] at f
      exact ⟨i, b, m, h, f⟩
  have owF : ∀ {a : Addr}, OwF (wipe σ vs) (wipeE ρ vs) a → OwF σ ρ a := fun {a} ⟨i, m, h, f⟩ => by
    by_cases hi : i ∈ vs
    · cases wipeE_in hi h
    · rw [wipeE_out hi] at h
      rw [wipe_out hi] at f
      exact ⟨i, m, h, f⟩
  refine ⟨⟨n.abs.le, by rw [restE_len, ln]; exact A.len, fun i s h => ?_, fun i j b m b' m' a h1 h2' h3 h4 => ?_⟩, n.g, fun a o h no => n.k a o h fun w => no (ow w), n.d, fun a u h => ?_, fun a h => ?_, fun i m h => ?_, fun i m h => ?_⟩
  · by_cases hi : i ∈ vs
    · have q := restE_in hi h
      have hl : i < ρ.length := by rw [← ln, ← restE_len (ρ0 := ρ) (vs := vs)]; exact (List.getElem?_eq_some_iff.mp h).1
      have e : ρ[i]? = some s := by
        rw [List.getD_eq_getElem?_getD] at q
        rw [List.getElem?_eq_getElem hl] at q ⊢
        rw [q]
        rfl
      have z := A.sl i s e
      cases s with
      | non => trivial
      | val x => obtain ⟨v, e1, r⟩ := z; exact ⟨v, e1, r.mono n.leg⟩
      | exn x => obtain ⟨a, c, d, e0, e1, e2⟩ := z; exact ⟨a, c, d, e0, e1, e2.mono n.leg⟩
      | own b m => exact absurd e (saveOk_get sv hi)
    · rw [restE_out hi] at h
      rw [← h2 i hi]
      exact n.abs.sl i s h
  · obtain ⟨n1, e1⟩ := own i b m h1
    obtain ⟨n2, e2⟩ := own j b' m' h2'
    rw [← h2 i n1] at h3
    rw [← h2 j n2] at h4
    exact n.abs.inj i j b m b' m' a e1 e2 h3 h4
  · rcases n.f a u h with h | h | h
    · exact .inl h
    · exact .inr (.inl h)
    · exact .inr (.inr (owF h))
  · obtain ⟨i, b, m, h1, h3⟩ := h
    obtain ⟨n1, e1⟩ := own i b m h1
    rw [← h2 i n1] at h3
    rcases n.w a ⟨i, b, m, e1, h3⟩ with z | z
    · exact .inl (ow z)
    · exact .inr z
  · have hi : i ∉ vs := fun z => saveOk_get sv z h
    obtain ⟨⟨m', e'⟩, _⟩ := n.br i m (by rw [wipeE_out hi]; exact h)
    exact ⟨⟨m', by rw [restE_out hi]; exact e'⟩, rfl⟩
  · obtain ⟨hi, e1⟩ := own i true m h
    obtain ⟨m', e'⟩ := n.nb i m e1
    rw [wipeE_out hi] at e'
    exact ⟨m', e'⟩
/-- an object that is neither frozen nor own is new or changed -/
theorem nx_new {a : Addr} {o : HO} (n : Nx D G H σ ρ G1 H1 σ2 ρ1) (ha : H a = none) (ga : G1 a = none) (no : ¬ Ow σ2 ρ1 a) : Nx D G H σ ρ G1 (upd H1 a o) σ2 ρ1 := by
  refine ⟨⟨fun b u h => ?_, n.abs.len, fun i s h => ?_, n.abs.inj⟩, n.g, fun b u h no' => ?_, fun b h => ?_, n.f, n.w, n.br, n.nb⟩
  · have hb : b ≠ a := by
      rintro rfl
      rw [ga] at h; cases h
    exact (upd_ne hb).trans (n.abs.le b u h)
  · have q := n.abs.sl i s h
    cases s with
    | non => trivial
    | val x => exact q
    | exn x => exact q
    | own b m =>
      obtain ⟨c, e, g, r⟩ := q
      refine ⟨c, e, g, r.mono (LeG.refl _) (upd_ne ?_)⟩
      rintro rfl
      exact no ⟨i, b, m, h, e⟩
  · have hb : b ≠ a := by rintro rfl; rw [ha] at h; cases h
    rw [upd_ne hb]
    exact n.k b u h no'
  · by_cases hb : b = a
    · rw [hb]; exact ha
    · rw [upd_ne hb] at h; exact n.d b h
end
section
variable {D : Wd} {W : WX} {X : Cx} {elt tgt iter e : Expr} {ifs : List Expr} {scope : Scope} {own : List (Str × Nat)} {pos : Pos} {g : TG} {tg : Tg} {t : EM Bool} {m : EM PV} {mi : EM (List PV)}
theorem Kg.noX {α β : Type} {o : Out α} {k : α → Ev → Out β} {G H : Hp} {σ : St} {ρ : Ev} {P : α → Ev → Hp → Hp → Prop} {z : Out β} (e : (noX o).bind k = z) (hz : z ≠ .stuck) (h : ∀ x ρ', o = .ok x ρ' → k x ρ' = z → ∀ G' H', Nx D G H σ ρ G' H' σ ρ' → P x ρ' G' H') : Kg D W0 o G H σ ρ P := by
  cases o with
  | ok x ρ' => exact h x ρ' rfl e
  | exc ex ρ' => exact absurd e.symm hz
  | stuck => exact absurd e.symm hz
theorem cmp_le {vs : List Nat} (tk : TgX D g tg vs) (σ : St) (H : Hp) (Q : VK) (h : tN D W (cmpM vs mi tg t m) σ H Q) : tLc (tI D W mi) g (tB D W0 t) (tE D W0 m) vs σ H Q := by
  obtain ⟨G, ρ, A, k⟩ := h
  have k' : Kg D W ((mi ρ).bind fun xs ρ => if saveOk ρ vs then (cmpL vs tg t m xs [] ρ).bind fun ys ρ => (.ok (.lst ys) ρ : Out MO) else .stuck) G H σ ρ fun mo ρ' G' H' => ∀ a, G' a = none → H a = none → MRep D G' H' a mo → ¬ Ow σ ρ' a → Q (.ref a) H' := k
  refine ⟨G, ρ, A, (Kg.bind k').mono fun xs ρ1 G1 H1 n1 k1 J jok => ?_⟩
  intro Da hDa
  by_cases sv : saveOk ρ1 vs = true
  · rw [if_pos sv] at k1
    -- the whole list's outcome
    obtain ⟨z, hz⟩ : ∃ z, cmpL vs tg t m xs [] ρ1 = z := ⟨_, rfl⟩
    rw [hz] at k1
    have zs : z ≠ .stuck := by rintro rfl; exact k1
    have gD : G1 Da = none := by
      cases q : G1 Da with
      | none => rfl
      | some u =>
        have e := n1.abs.le Da u q
        rw [hDa] at e; cases e
    have oD : ¬ Ow σ ρ1 Da := fun w => by
      obtain ⟨⟨o, ho⟩, _⟩ := n1.abs.ow_some w
      rw [hDa] at ho; cases ho
    have n0 : Nx D G1 H1 σ ρ1 G1 (upd H1 Da (.lst [])) σ ρ1 := nx_new (Nx.refl n1.abs) hDa gD oD
    refine ⟨fun i me H => me = xs.length - i ∧ i ≤ xs.length ∧ ∃ G2 ρ2 acc ws, Nx D G1 H1 σ ρ1 G2 H σ ρ2 ∧ saveOk ρ2 vs = true ∧ G2 Da = none ∧ ¬ Ow σ ρ2 Da ∧ H Da = some (.lst ws) ∧ Reps D G2 acc ws ∧ cmpL vs tg t m (xs.drop i) acc ρ2 = z,
      ⟨_, rfl, Nat.zero_le _, G1, ρ1, [], [], n0, sv, gD, oD, upd_same, rfl, hz⟩, ?_⟩
    rintro i me H ⟨rfl, hi, G2, ρ2, acc, ws, n2, sv2, gD2, oD2, hD2, rs2, e2⟩
    by_cases hlt : i < xs.length
    · obtain ⟨go, yl⟩ := (jok G2 H n2.g n2.abs.le i).1 hlt
      refine .inr ⟨go, fun H => i + 1 ≤ xs.length ∧ ∃ G2 ρ2 acc ws, Nx D G1 H1 σ ρ1 G2 H σ ρ2 ∧ saveOk ρ2 vs = true ∧ G2 Da = none ∧ ¬ Ow σ ρ2 Da ∧ H Da = some (.lst ws) ∧ Reps D G2 acc ws ∧ cmpL vs tg t m (xs.drop (i + 1)) acc ρ2 = z,
        fun H' h' => ⟨xs.length - (i + 1), by omega, rfl, h'⟩, fun v H' y => ?_⟩
      obtain ⟨G3, x, ex, gr, rx⟩ := yl v H' y
      have n3 := n2.abs.grow gr
      have hx : xs[i] = x := by
        have ee := List.getElem?_eq_getElem hlt
        rw [ex] at ee
        exact (Option.some.inj ee).symm
      rw [List.drop_eq_getElem_cons hlt, hx] at e2
      have e3 : (match tg x (wipeE ρ2 vs) with
        | some ρ1 => (noX (t ρ1)).bind fun b ρ4 => match b with
          | true => (noX (m ρ4)).bind fun y ρ3 => if acc.length < sizeLine then cmpL vs tg t m (xs.drop (i + 1)) (acc ++ [y]) (restE ρ2 vs ρ3) else .stuck
          | false => cmpL vs tg t m (xs.drop (i + 1)) acc (restE ρ2 vs ρ4)
        | none => .stuck) = z := e2
      cases q : tg x (wipeE ρ2 vs) with
      | none => rw [q] at e3; exact absurd e3.symm zs
      | some ρ5 =>
        rw [q] at e3
        have Aw : Abs D G3 H' (wipe σ vs) (wipeE ρ2 vs) := abs_wipe n3.abs
        refine tk G3 H' (wipe σ vs) (wipeE ρ2 vs) x v ρ5 _ Aw rx q fun σ6 l6 s6 n6 => ?_
        have l6' : σ6.length = σ.length := by rw [l6, wipe_length]
        have s6' : ∀ j, j ∉ vs → σ6[j]? = σ[j]? := fun j hj => (s6 j hj).trans (wipe_out hj)
        refine ⟨wipe_same l6' s6', G3, ρ5, n6.abs, Kg.noX e3 zs fun b ρ7 eb e7 G7 H7 n7 => ?_⟩
        -- what stands behind the block's step
        have fin : ∀ {ρ8 : Ev} {G8 H8 : Hp}, Nx D G3 H' (wipe σ vs) (wipeE ρ2 vs) G8 H8 σ6 ρ8 → Nx D G1 H1 σ ρ1 G8 H8 σ (restE ρ2 vs ρ8) ∧ saveOk (restE ρ2 vs ρ8) vs = true ∧ G8 Da = none ∧ ¬ Ow σ (restE ρ2 vs ρ8) Da ∧ H8 Da = some (.lst ws) := fun {ρ8 G8 H8} n8 => by
          have nb := nx_blk n3.abs sv2 n8 l6' s6'
          have na := n3.trans nb
          have hl : (restE ρ2 vs ρ8).length = ρ2.length := by rw [← na.abs.len, n2.abs.len]
          refine ⟨n2.trans na, ?_, ?_, ?_, ?_⟩
          · unfold saveOk
            rw [List.all_eq_true]
            intro j hj
            cases ej : (restE ρ2 vs ρ8)[j]? with
            | none => rfl
            | some s =>
              have q2 := restE_in hj ej
              have hjl : j < ρ2.length := by rw [← hl]; exact (List.getElem?_eq_some_iff.mp ej).1
              have q3 : ρ2[j]? = some s := by
                rw [List.getD_eq_getElem?_getD] at q2
                rw [List.getElem?_eq_getElem hjl] at q2 ⊢
                rw [q2]
                rfl
              cases s with
              | own b m => exact absurd q3 (saveOk_get sv2 hj)
              | _ => rfl
          · cases qg : G8 Da with
            | none => rfl
            | some u =>
              rcases na.f Da u qg with w | w | w
              · rw [gD2] at w; cases w
              · rw [hD2] at w; cases w
              · exact absurd w.ow oD2
          · intro w
            rcases na.w Da w with w | w
            · exact oD2 w
            · rw [hD2] at w; cases w
          · exact na.k Da _ hD2 oD2
        cases b with
        | false =>
          refine Eq.mpr (if_neg Bool.false_ne_true) ?_
          obtain ⟨f1, f2, f3, f4, f5⟩ := fin (n6.trans n7)
          exact ⟨hlt, G7, _, acc, ws, f1, f2, f3, f4, f5, rs2.mono (n3.leg.trans (n6.trans n7).leg), e7⟩
        | true =>
          refine Eq.mpr (if_pos rfl) ?_
          refine ⟨G7, ρ7, n7.abs, Kg.noX e7 zs fun y8 ρ8 e8 e9 G8 H8 n8 w rw' => ?_⟩
          have n9 := (n6.trans n7).trans n8
          obtain ⟨f1, f2, f3, f4, f5⟩ := fin n9
          have rs8 : Reps D G8 acc ws := rs2.mono (n3.leg.trans n9.leg)
          by_cases hz8 : acc.length < sizeLine
          · rw [if_pos hz8] at e9
            refine ⟨ws, f5, by rw [rs8.length]; exact hz8, hlt, G8, _, acc ++ [y8], ws ++ [w], nx_new f1 hDa f3 f4, f2, f3, f4, upd_same, rs8.append (Reps.one rw'), e9⟩
          · rw [if_neg hz8] at e9
            exact absurd e9.symm zs
    · refine .inl ⟨(jok G2 H n2.g n2.abs.le i).2 (by omega), ?_⟩
      rw [List.drop_eq_nil_of_le (by omega)] at e2
      have e3 : (.ok acc ρ2 : Out (List PV)) = z := e2
      subst e3
      exact k1 G2 H n2 Da gD2 (n1.d Da hDa) ⟨ws, hD2, rs2⟩ oD2
  · rw [if_neg sv] at k1
    exact False.elim k1
theorem rn_lc (hc : X.calm = true) (hN : X.N.Nodup) (ok : BlkOk X.N X.env.scope scope own) (tk : TgX D g tg (own.map (·.2))) (hi : RI D W X tgt iter mi)
    (hg : ∀ (s : Shared) (H : Hp) (C : Addr) (cl : List (Str × Addr)) (fp : List Addr), PG (X.blk s H scope (compEnvC scope cl C X.env) fp) tgt g)
    (ht : ∀ (s : Shared) (H : Hp) (C : Addr) (cl : List (Str × Addr)) (fp : List Addr), PTs (X.blk s H scope (compEnvC scope cl C X.env) fp) ifs (tB D W0 t))
    (he : ∀ (s : Shared) (H : Hp) (C : Addr) (cl : List (Str × Addr)) (fp : List Addr), RE D W0 (X.blk s H scope (compEnvC scope cl C X.env) fp) elt m) (hs : ∀ x, foldedSetIterable iter X.env x = pure x := by intro _; rfl) :
    RN D W X (.ListComp elt [⟨tgt, iter, ifs, 0⟩] scope pos) (cmpM (own.map (·.2)) mi tg t m) := (pe_lc hc hN hi ok hg ht he hs).imp (cmp_le tk)
theorem s_setLc {i : Nat} {y : Str} {py spos : Pos} (hc : X.calm = true) (hN : X.N.Nodup) (hy : X.N[i]? = some y) (hyl : X.env.scope.names.lookup y = some .local)
    (hsw : swapsWith (.ListComp elt [⟨tgt, iter, ifs, 0⟩] scope pos) (some (.Name y py)) spos.line X.env = pure true) (ok : BlkOk X.N X.env.scope scope own) (tk : TgX D g tg (own.map (·.2))) (hi : RI D W X tgt iter mi)
    (hg : ∀ (s : Shared) (H : Hp) (C : Addr) (cl : List (Str × Addr)) (fp : List Addr), PG (X.blk s H scope (compEnvC scope cl C X.env) fp) tgt g)
    (ht : ∀ (s : Shared) (H : Hp) (C : Addr) (cl : List (Str × Addr)) (fp : List Addr), PTs (X.blk s H scope (compEnvC scope cl C X.env) fp) ifs (tB D W0 t))
    (he : ∀ (s : Shared) (H : Hp) (C : Addr) (cl : List (Str × Addr)) (fp : List Addr), RE D W0 (X.blk s H scope (compEnvC scope cl C X.env) fp) elt m) (hs : ∀ x, foldedSetIterable iter X.env x = pure x := by intro _; rfl) :
    RS D W X (.Assign [.Name y py] (.ListComp elt [⟨tgt, iter, ifs, 0⟩] scope pos) spos) (setO i (cmpM (own.map (·.2)) mi tg t m)) :=
  (ps_setLc hc hN hy hyl hsw hi ok hg ht he hs).imp fun E σ H ⟨G, ρ, A, k⟩ => by
    refine cmp_le (W := W) tk σ H _ ⟨G, ρ, A, ?_⟩
    unfold setO at k
    revert k
    cases cmpM (own.map (·.2)) mi tg t m ρ with
    | stuck => exact fun k => k
    | exc e ρ' => exact fun k G' H' c d n er => k G' H' σ c d n er
    | ok mo ρ' =>
      intro k G' H' n ad g ha r no
      rw [Out.to_ok] at k
      unfold putO at k
      split at k
      · rename_i h
        exact k G' H' _ (nx_putO n g ha r no (mayPut_no h))
      · exact False.elim k
def noT : EM Bool := fun ρ => .ok true ρ
theorem pts_no : PTs X [] (tB D W noT) := ⟨fun pins s σ H Q I ⟨G, ρ, A, k⟩ => pts_nil.run pins s σ H Q I (k G H (Nx.refl A))⟩
theorem pts_t (h : RB D W X e t) : PTs X [e] (tB D W t) := pts_one h
end
end TR

set_option Elab.async false
set_option linter.all false
set_option maxRecDepth 100000
/-! TRM: built-in calls. -/
namespace TR
open PySem PySem.Spec L2
set_option autoImplicit false
section
variable {D : Wd} {W : WX} {X : Cx} {a b c e o ix : Expr} {es : List Expr} {pos p2 p p3 p4 : Pos} {m m1 m2 : EM PV} {ms : EM (List AV)}

/-! ### isinstance -/
inductive Ty where
  | bool | int | str | list | tuple | dict
deriving DecidableEq
def Ty.nm : Ty → String
  | .bool => "bool" | .int => "int" | .str => "str" | .list => "list" | .tuple => "tuple" | .dict => "dict"
def isTy : PV → Ty → Bool
  | .non, _ => false
  | .bl _, .bool => true
  | .bl _, .int => true
  | .bl _, _ => false
  | .int _, .int => true
  | .int _, _ => false
  | .str _, .str => true
  | .str _, _ => false
  | .lst _, .list => true
  | .lst _, _ => false
  | .tup _, .tuple => true
  | .tup _, _ => false
  | .dct _, .dict => true
  | .dct _, _ => false
  | .obj _ _, _ => false
/-- what isinstance asks of an own class -/
structure IsC (K : PySem.W.Frag) (C : Addr) : Prop where
  cl : Cls K C
  ha : PySem.W.findIn K (.ref C) "__class__" = some (some (.builtin "object.__class__"))
  hn : PySem.W.specialIn K (.builtin "object.__class__") "__get__" = some (some (.builtin "getset_descriptor.__get__"))
  htk : PySem.W.takesIn K (.builtin "object.__class__") = some true
  hm : PySem.W.mroIn K C (.type "object") = some true
structure IsF (K : PySem.W.Frag) (C : Addr) : Prop extends IsC K C where
  k : ∀ T : Ty, PySem.W.kitOne K (.ref C) (.type T.nm) = some false
def IsAll (D : Wd) : Prop := ∀ c C, D.T c C → IsF D.K C
theorem isall_no {K : PySem.W.Frag} : IsAll ⟨K, fun _ _ => False, fun _ _ => False, none⟩ := fun _ _ h => h.elim
theorem tyx_lst {G H : Hp} {ad : Addr} {vs : List V} (h : SqL D.K H ad vs) : TyX D.K H (.ref ad) (.type "list") := by
  rcases h with (h | ⟨o, h⟩) | ⟨o, its, n, hk, hc, _⟩
  · exact .base (.lst h)
  · exact .base (.frz h)
  · exact .kList hk hc
theorem tyx_tup {G H : Hp} {ad : Addr} {vs : List V} (h : SqT D.K H ad vs) : TyX D.K H (.ref ad) (.type "tuple") := by
  rcases h with (h | ⟨o, h⟩) | ⟨o, its, n, hk, hc, _⟩
  · exact .base (.tup h)
  · exact .fTuple h
  · exact .kTuple hk hc
/-- a value's type, as the library's rules ask it -/
theorem kb_non : ∀ T : Ty, kitB "NoneType" T.nm = some (isTy .non T) := fun T => by cases T <;> decide +kernel
theorem kb_bl : ∀ (k : Bool) (T : Ty), kitB "bool" T.nm = some (isTy (.bl k) T) := fun k T => by cases k <;> cases T <;> decide +kernel
theorem kb_int : ∀ (k : Int) (T : Ty), kitB "int" T.nm = some (isTy (.int k) T) := fun k T => (by cases T <;> decide +kernel : kitB "int" T.nm = some (isTy (.int 0) T)).trans (by cases T <;> rfl)
theorem kb_str : ∀ (k : Str) (T : Ty), kitB "str" T.nm = some (isTy (.str k) T) := fun k T => (by cases T <;> decide +kernel : kitB "str" T.nm = some (isTy (.str ⟨#[]⟩) T)).trans (by cases T <;> rfl)
theorem kb_lst : ∀ (k : List PV) (T : Ty), kitB "list" T.nm = some (isTy (.lst k) T) := fun k T => (by cases T <;> decide +kernel : kitB "list" T.nm = some (isTy (.lst []) T)).trans (by cases T <;> rfl)
theorem kb_tup : ∀ (k : List PV) (T : Ty), kitB "tuple" T.nm = some (isTy (.tup k) T) := fun k T => (by cases T <;> decide +kernel : kitB "tuple" T.nm = some (isTy (.tup []) T)).trans (by cases T <;> rfl)
theorem kb_dct : ∀ (k : List (Key × PV)) (T : Ty), kitB "dict" T.nm = some (isTy (.dct k) T) := fun k T => (by cases T <;> decide +kernel : kitB "dict" T.nm = some (isTy (.dct []) T)).trans (by cases T <;> rfl)
theorem ty_of (hT : IsAll D) {G H : Hp} (le : LeG G H) {x : PV} {v : V} (r : RepH D G H x v) : ∃ t : Value, TyX D.K H v t ∧ (∀ T : Ty, PySem.W.kitOne D.K t (.type T.nm) = some (isTy x T)) ∧ ∀ c fs, x = .obj c fs → ∃ C, t = .ref C ∧ D.T c C := by
  cases x with
  | non => cases r; exact ⟨_, .base .non, fun T => kit_ty (kb_non T), fun _ _ e => nomatch e⟩
  | bl k => cases r; exact ⟨_, .base (.bl k), fun T => kit_ty (kb_bl k T), fun _ _ e => nomatch e⟩
  | int k => cases r; exact ⟨_, .base (.int k), fun T => kit_ty (kb_int k T), fun _ _ e => nomatch e⟩
  | str k => cases r; exact ⟨_, .base (.str k), fun T => kit_ty (kb_str k T), fun _ _ e => nomatch e⟩
  | lst xs =>
    obtain ⟨ad, vs, rfl, h, _⟩ := r
    exact ⟨_, tyx_lst (G := G) h, fun T => kit_ty (kb_lst xs T), fun _ _ e => nomatch e⟩
  | tup xs =>
    obtain ⟨ad, vs, rfl, h, _⟩ := r
    exact ⟨_, tyx_tup (G := G) (sqT_mono le h), fun T => kit_ty (kb_tup xs T), fun _ _ e => nomatch e⟩
  | dct xs =>
    obtain ⟨ad, vs, rfl, h, _⟩ := r
    refine ⟨.type "dict", ?_, fun T => kit_ty (kb_dct xs T), fun _ _ e => nomatch e⟩
    rcases h with h | ⟨o, h⟩
    · exact .base (.dK h)
    · exact .fDict h
  | obj c fs =>
    obtain ⟨ad, C, dx, ws, rfl, h, t, _⟩ := r
    have F := hT c C t
    exact ⟨.ref C, .base (.ins h F.cl F.ha F.hn F.htk F.hm), fun T => F.k T, fun c' fs' e => by cases e; exact ⟨C, rfl, t⟩⟩
def isM (m : EM PV) (T : Ty) : EM PV := fun ρ => (m ρ).bind fun x ρ => .ok (.bl (isTy x T)) ρ
theorem re_isi (hT : IsAll D) (T : Ty) {x : Str} (hK : D.K = X.K) (he : RP D W X e m) (hg : Gl X "isinstance") (hm : X.mg "isinstance" = none) (hg2 : Gl X x) (hm2 : X.mg x = none) (hv2 : bootBuiltins x = some (.type T.nm))
    (hn2 : x ≠ "__name__" := by decide) (hd2 : (x == ("__debug__" : Str)) = false := by decide)
    (hs : starEach [e, .Name x p3] X.env = (false, eval e X.env) :: starEach [.Name x p3] X.env := by rfl) (hs2 : starEach [.Name x p3] X.env = (false, eval (.Name x p3) X.env) :: starEach [] X.env := by rfl) (hpl : (backTo p2 (starEach [.Name x p3] X.env)).any (·.1) = false := by rfl) :
    RE D W X (.Call (.Name "isinstance" p) [e, .Name x p3] [] p2) (isM m T) :=
  (pe_callB call_isi hg hm PyProof.Rows.boot_isinstance (pa_cons he (pa_cons (pe_bltn hg2 hm2 hv2 (show RelV (.ty T.nm) (.type T.nm) from rfl) hn2 hd2) pa_nil hs2) hs) (by decide) (by decide) hs hpl).imp fun σ H Q ⟨G, ρ, A, k⟩ =>
    ⟨G, ρ, A, (Kg.bind k).mono fun x ρ1 G1 H1 n1 k1 v rv => by
      obtain ⟨t, ty, f, _⟩ := ty_of hT n1.abs.le rv
      exact ⟨v, .ty T.nm, t, .type T.nm, _, rfl, .ty _, hK ▸ ty, hK ▸ f T, k1 G1 H1 (Nx.refl n1.abs) _ rfl⟩⟩

/-! ### len, int, bool, list, max, min -/
def bLen : List PV → Option PV
  | [.lst xs] => some (.int xs.length)
  | [.tup xs] => some (.int xs.length)
  | [.str s] => if s.length ≤ sizeLine then some (.int s.length) else none
  | _ => none
theorem one_h {G H : Hp} {x : PV} {vs : List V} (r : RepHs D G H [x] vs) : ∃ v, vs = [v] ∧ RepH D G H x v := by
  obtain ⟨v, ws, rfl, r1, r2⟩ := r
  rw [show ws = [] from r2]
  exact ⟨v, rfl, r1⟩
theorem two_h {G H : Hp} {x y : PV} {vs : List V} (r : RepHs D G H [x, y] vs) : ∃ v w, vs = [v, w] ∧ RepH D G H x v ∧ RepH D G H y w := by
  obtain ⟨v, ws, rfl, r1, r2⟩ := r
  obtain ⟨w, rfl, r3⟩ := one_h r2
  exact ⟨v, w, rfl, r1, r3⟩
theorem sn_len (hK : D.K = X.K) : SnC D (fun xs H Q => ∃ x n, xs = [x] ∧ LenV X.K x H n ∧ Q (.int n) H) bLen := by
  intro G H xs z vs Q le r e q
  unfold bLen at e
  split at e
  · cases e
    obtain ⟨v, rfl, ad, ws, rfl, s, rs⟩ := one_h r
    exact ⟨_, ws.length, rfl, .inl ⟨ws, hK ▸ s, rfl⟩, by rw [rs.length]; exact q G H _ (Grow.refl le) rfl⟩
  · cases e
    obtain ⟨v, rfl, ad, ws, rfl, s, rs⟩ := one_h r
    exact ⟨_, ws.length, rfl, .inr ⟨ws, hK ▸ sqT_mono le s, rfl⟩, by rw [rs.length]; exact q G H _ (Grow.refl le) rfl⟩
  · split at e
    · rename_i hz
      cases e
      obtain ⟨v, rfl, r1⟩ := one_h r
      cases r1
      exact ⟨_, _, rfl, ⟨hz, rfl⟩, q G H _ (Grow.refl le) rfl⟩
    · cases e
  · cases e
theorem re_len (hK : D.K = X.K) (hg : Gl X "len") (hm : X.mg "len" = none) (ha : RA D W X (e :: es) ms)
    (he : starEach (e :: es) X.env = (false, eval e X.env) :: starEach es X.env := by rfl) (hpl : (backTo p2 (starEach es X.env)).any (·.1) = false := by rfl) : RE D W X (.Call (.Name "len" p) (e :: es) [] p2) (callB bLen ms) :=
  re_callB call_len (sn_len hK) hg hm PySem.boot_len ha (by decide) (by decide) he hpl
def bInt : List PV → Option PV
  | [.int i] => some (.int i)
  | [.bl k] => some (.int (if k then 1 else 0))
  | _ => none
theorem sn_int : SnC D (fun xs H Q => (∃ i, xs = [.int i] ∧ Q (.int i) H) ∨ ∃ k, xs = [.bl k] ∧ Q (.int (if k then 1 else 0)) H) bInt := by
  intro G H xs z vs Q le r e q
  unfold bInt at e
  split at e
  · cases e
    obtain ⟨v, rfl, r1⟩ := one_h r
    cases r1
    exact .inl ⟨_, rfl, q G H _ (Grow.refl le) rfl⟩
  · cases e
    obtain ⟨v, rfl, r1⟩ := one_h r
    cases r1
    exact .inr ⟨_, rfl, q G H _ (Grow.refl le) rfl⟩
  · cases e
def bBool : List PV → Option PV
  | [.int i] => some (.bl (i != 0))
  | [.bl k] => some (.bl k)
  | _ => none
theorem sn_bool : SnC D (fun xs H Q => (∃ i, xs = [.int i] ∧ Q (.bl (i != 0)) H) ∨ ∃ k, xs = [.bl k] ∧ Q (.bl k) H) bBool := by
  intro G H xs z vs Q le r e q
  unfold bBool at e
  split at e
  · cases e
    obtain ⟨v, rfl, r1⟩ := one_h r
    cases r1
    exact .inl ⟨_, rfl, q G H _ (Grow.refl le) rfl⟩
  · cases e
    obtain ⟨v, rfl, r1⟩ := one_h r
    cases r1
    exact .inr ⟨_, rfl, q G H _ (Grow.refl le) rfl⟩
  · cases e
def bMax : List PV → Option PV
  | [.int i, .int j] => some (.int (if j > i then j else i))
  | _ => none
def bMin : List PV → Option PV
  | [.int i, .int j] => some (.int (if j < i then j else i))
  | _ => none
theorem sn_max : SnC D (fun xs H Q => ∃ i j, xs = [.int i, .int j] ∧ Q (.int (if j > i then j else i)) H) bMax := by
  intro G H xs z vs Q le r e q
  unfold bMax at e
  split at e
  · cases e
    obtain ⟨v, w, rfl, r1, r2⟩ := two_h r
    cases r1; cases r2
    exact ⟨_, _, rfl, q G H _ (Grow.refl le) rfl⟩
  · cases e
theorem sn_min : SnC D (fun xs H Q => ∃ i j, xs = [.int i, .int j] ∧ Q (.int (if j < i then j else i)) H) bMin := by
  intro G H xs z vs Q le r e q
  unfold bMin at e
  split at e
  · cases e
    obtain ⟨v, w, rfl, r1, r2⟩ := two_h r
    cases r1; cases r2
    exact ⟨_, _, rfl, q G H _ (Grow.refl le) rfl⟩
  · cases e
section
variable (he : starEach (e :: es) X.env = (false, eval e X.env) :: starEach es X.env := by rfl) (hpl : (backTo p2 (starEach es X.env)).any (·.1) = false := by rfl)
include he hpl
theorem re_int1 (hg : Gl X "int") (hm : X.mg "int" = none) (ha : RA D W X (e :: es) ms) : RE D W X (.Call (.Name "int" p) (e :: es) [] p2) (callB bInt ms) :=
  re_callTy call_int1 sn_int hg hm PyProof.Rows.boot_int ha (by decide) (by decide) he hpl
theorem re_bool1 (hg : Gl X "bool") (hm : X.mg "bool" = none) (ha : RA D W X (e :: es) ms) : RE D W X (.Call (.Name "bool" p) (e :: es) [] p2) (callB bBool ms) :=
  re_callTy call_bool1 sn_bool hg hm PyProof.Rows.boot_bool ha (by decide) (by decide) he hpl
theorem re_max2 (hc : X.calm = true) (hg : Gl X "max") (hm : X.mg "max" = none) (ha : RA D W X (e :: es) ms) : RE D W X (.Call (.Name "max" p) (e :: es) [] p2) (callB bMax ms) :=
  re_callB (call_max2 hc) sn_max hg hm PyProof.Rows.boot_max ha (by decide) (by decide) he hpl
theorem re_min2 (hc : X.calm = true) (hg : Gl X "min") (hm : X.mg "min" = none) (ha : RA D W X (e :: es) ms) : RE D W X (.Call (.Name "min" p) (e :: es) [] p2) (callB bMin ms) :=
  re_callB (call_min2 hc) sn_min hg hm PyProof.Rows.boot_min ha (by decide) (by decide) he hpl
end
/-- list(e): a new list of the items -/
def listM (m : EM PV) : EM MO := fun ρ => (m ρ).bind fun x ρ => match x with
  | .lst xs => .ok (.lst xs) ρ
  | .tup xs => .ok (.lst xs) ρ
  | _ => .stuck
theorem new_own {G H G1 H1 : Hp} {σ : St} {ρ ρ1 : Ev} {mo : MO} {o : HO} {Q : VK} {l : Addr} (n : Nx D G H σ ρ G1 H1 σ ρ1) (hl : H1 l = none) (r : MRep D G1 (upd H1 l o) l mo)
    (k : ∀ G' H', Nx D G H σ ρ G' H' σ ρ1 → ∀ a, G' a = none → H a = none → MRep D G' H' a mo → ¬ Ow σ ρ1 a → Q (.ref a) H') : Q (.ref l) (upd H1 l o) := by
  have gp : G1 l = none := by
    cases z : G1 l with
    | none => rfl
    | some u =>
      have z2 := n.abs.le l u z
      rw [hl] at z2; cases z2
  have no : ¬ Ow σ ρ1 l := fun w => by
    obtain ⟨⟨o, ho⟩, _⟩ := n.abs.ow_some w
    rw [hl] at ho; cases ho
  exact k G1 _ (n.trans (n.abs.grow (Grow.newH n.abs.le hl))) l gp (n.d l hl) r no
theorem Kg.bindO {α : Type} {o : Out α} {f : α → Ev → Out MO} {G H : Hp} {σ : St} {ρ : Ev} {P : MO → Ev → Hp → Hp → Prop} (h : Kg D W (o.bind f) G H σ ρ P) :
    Kg D W o G H σ ρ fun x ρ1 G1 H1 => Nx D G H σ ρ G1 H1 σ ρ1 → ∀ mo ρ2, f x ρ1 = .ok mo ρ2 → ∀ G' H', Nx D G H σ ρ G' H' σ ρ2 → P mo ρ2 G' H' := by
  cases o with
  | stuck => exact h
  | exc e ρ' => exact h
  | ok x ρ1 =>
    intro G1 H1 n n' mo ρ2 e G' H' n2
    have h' : Kg D W (f x ρ1) G H σ ρ P := h
    rw [e] at h'
    exact h' G' H' n2
theorem rn_list (hK : D.K = X.K) (h : RP D W X e m) (hg : Gl X "list") (hm : X.mg "list" = none) (he : starEach [e] X.env = (false, eval e X.env) :: starEach [] X.env := by rfl) (hpl : (backTo p2 (starEach [] X.env)).any (·.1) = false := by rfl) :
    RN D W X (.Call (.Name "list" p) [e] [] p2) (listM m) :=
  (pe_callTy call_list_of hg hm PyProof.Rows.boot_list (pa_cons h pa_nil he) (by decide) (by decide) he hpl).imp fun σ H Q ⟨G, ρ, A, k⟩ => ⟨G, ρ, A, by
    unfold listM at k
    cases q : m ρ with
    | stuck => rw [q] at k; exact k
    | exc ex ρ' => rw [q] at k; exact k
    | ok x ρ1 =>
      rw [q] at k
      simp only [Out.bind_ok] at k
      intro G1 H1 n v rv
      cases x with
      | lst xs =>
        obtain ⟨ad, vs, rfl, s, rs⟩ := rv
        exact ⟨ad, vs, rfl, .inl (hK ▸ s), fun l hl => new_own (mo := .lst xs) n hl ⟨vs, upd_same, rs⟩ k⟩
      | tup xs =>
        obtain ⟨ad, vs, rfl, s, rs⟩ := rv
        exact ⟨ad, vs, rfl, .inr (hK ▸ sqT_mono n.abs.le s), fun l hl => new_own (mo := .lst xs) n hl ⟨vs, upd_same, rs⟩ k⟩
      | _ => exact False.elim k⟩

/-! ### methods of texts -/
def SnS (D : Wd) (r : V → List V → Hp → VK → Prop) (g : Str → List PV → Option PV) : Prop := ∀ (G H : Hp) (a : Str) (xs : List PV) (z : PV) (vs : List V) (Q : VK), LeG G H → RepHs D G H xs vs → g a xs = some z →
  (∀ G' H' v', Grow G H G' H' → Rep D G' z v' → Q v' H') → r (.str a) vs H Q
def strM (g : Str → List PV → Option PV) (mo : EM PV) (ms : EM (List AV)) : EM PV := fun ρ => (mo ρ).bind fun x ρ => match x with
  | .str a => (ms ρ).bind fun as ρ => (lift (derefs as ρ) ρ).bind fun xs ρ => lift (g a xs) ρ
  | _ => .stuck
theorem re_sm {apos : Pos} {name : Str} {id : String} {mo : EM PV} {r : V → List V → Hp → VK → Prop} {g : Str → List PV → Option PV} (slot : PySem.Slot "str" name id) (hty : typeOf (.builtin id) = pure (.type "method_descriptor")) (hm : MtR X id r) (sn : SnS D r g)
    (ho : RE D W X o mo) (ha : RA D W X (e :: es) ms) (hbase : attributeBase o name X.env (eval o X.env) = eval o X.env := by rfl)
    (hfew : ((backTo pos (starEach (e :: es) X.env)).all (fun x => !x.1) && (backToKw pos (keywordEach [] X.env)).all (fun x => x.1.isSome)
      && decide ((e :: es).length + ([] : List Keyword).length + (if ([] : List Keyword).isEmpty then 0 else 1) < 30)) = true := by rfl)
    (hline : (apos.endLine == pos.line) = true := by rfl) (hs : starEach (e :: es) X.env = (false, eval e X.env) :: starEach es X.env := by rfl) (hplain : (backTo pos (starEach es X.env)).any (·.1) = false := by rfl) :
    RE D W X (.Call (.Attribute o name apos) (e :: es) [] pos) (strM g mo ms) :=
  (pe_bm PySem.F.plainAttrs_str slot hty hm ho ha hbase hfew hline hs hplain).imp fun σ H Q ⟨G, ρ, A, k⟩ => ⟨G, ρ, A, (Kg.bind k).mono fun x ρ1 G1 H1 n1 k1 v rv => by
    cases x with
    | str a =>
      cases rv
      refine ⟨rfl, G1, ρ1, n1.abs, (Kg.bind k1).mono fun as ρ2 G2 H2 n2 k2 vs rv2 => ?_⟩
      obtain ⟨xs, e1, f⟩ := Kg.lift n2.abs (Kg.bind k2)
      obtain ⟨z, e2, f2⟩ := Kg.lift n2.abs (f G2 H2 (Grow.refl n2.abs.le))
      exact sn G2 H2 a xs z vs Q n2.abs.le (derefs_rep n2.abs rv2 e1) e2 fun G' H' v' g' r' => f2 G' H' g' v' r'
    | _ => exact False.elim k1⟩
def strsOf : List PV → Option (List Str)
  | [] => some []
  | .str s :: r => (strsOf r).map (s :: ·)
  | _ :: _ => none
theorem strs_rep {G : Hp} : ∀ {xs : List PV} {ss : List Str} {vs : List V}, strsOf xs = some ss → Reps D G xs vs → vs = ss.map V.str
  | [], _, _, e, r => by cases e; exact r
  | .str s :: xs, _, _, e, r => by
    rw [strsOf] at e
    cases q : strsOf xs with
    | none => rw [q] at e; cases e
    | some ss =>
      rw [q] at e; cases e
      obtain ⟨v, ws, rfl, r1, r2⟩ := r
      cases r1
      rw [strs_rep q r2]
      rfl
  | .non :: _, _, _, e, _ => by cases e
  | .bl _ :: _, _, _, e, _ => by cases e
  | .int _ :: _, _, _, e, _ => by cases e
  | .lst _ :: _, _, _, e, _ => by cases e
  | .tup _ :: _, _, _, e, _ => by cases e
  | .dct _ :: _, _, _, e, _ => by cases e
  | .obj _ _ :: _, _, _, e, _ => by cases e
def joinOk (a : Str) (ss : List Str) : Bool := decide ((ss.map (·.length)).sum + ss.length * a.length ≤ 16777216)
def sJoin (a : Str) : List PV → Option PV
  | [.lst xs] => (strsOf xs).bind fun ss => if joinOk a ss then some (.str (Txt.join a ss)) else none
  | [.tup xs] => (strsOf xs).bind fun ss => if joinOk a ss then some (.str (Txt.join a ss)) else none
  | _ => none
theorem sn_join (hK : D.K = X.K) : SnS D (fun x xs H Q => ∃ a p, ∃ ys : List Str, x = .str a ∧ xs = [.ref p] ∧ (SqL X.K H p (ys.map V.str) ∨ SqT X.K H p (ys.map V.str)) ∧
    (ys.map (·.length)).sum + ys.length * a.length ≤ 16777216 ∧ Q (.str (Txt.join a ys)) H) sJoin := by
  intro G H a xs z vs Q le r e q
  unfold sJoin at e
  split at e
  · obtain ⟨v, rfl, ad, ws, rfl, s, rs⟩ := one_h r
    rename_i ys
    cases h : strsOf ys with
    | none => rw [h] at e; cases e
    | some ss =>
      rw [h] at e
      simp only [Option.bind_some] at e
      split at e
      · rename_i hz
        cases e
        have := strs_rep h rs
        subst this
        exact ⟨a, ad, ss, rfl, rfl, .inl (hK ▸ s), of_decide_eq_true hz, q G H _ (Grow.refl le) rfl⟩
      · cases e
  · obtain ⟨v, rfl, ad, ws, rfl, s, rs⟩ := one_h r
    rename_i ys
    cases h : strsOf ys with
    | none => rw [h] at e; cases e
    | some ss =>
      rw [h] at e
      simp only [Option.bind_some] at e
      split at e
      · rename_i hz
        cases e
        have := strs_rep h rs
        subst this
        exact ⟨a, ad, ss, rfl, rfl, .inr (hK ▸ sqT_mono le s), of_decide_eq_true hz, q G H _ (Grow.refl le) rfl⟩
      · cases e
  · cases e
def sStarts (a : Str) : List PV → Option PV
  | [.str b] => some (.bl (Txt.startswith a b))
  | _ => none
theorem sn_starts : SnS D (fun x xs H Q => ∃ a b, x = .str a ∧ xs = [.str b] ∧ Q (.bl (Txt.startswith a b)) H) sStarts := by
  intro G H a xs z vs Q le r e q
  unfold sStarts at e
  split at e
  · cases e
    obtain ⟨v, rfl, r1⟩ := one_h r
    cases r1
    exact ⟨a, _, rfl, rfl, q G H _ (Grow.refl le) rfl⟩
  · cases e
end
end TR

set_option Elab.async false
set_option linter.all false
set_option maxRecDepth 100000
/-! TRN: defs by name, as the generator's text uses them. -/
namespace TR
open PySem PySem.Spec L2
set_option autoImplicit false
theorem hu65 {k : Nat} {A : Around} (hr : Room k A) : A.units + 65 < cLine := by have := hr.un; omega
theorem hu1 {k : Nat} {A : Around} (hr : Room k A) : A.units + 1 < cLine := by have := hr.un; omega
/-- the def of that text stands under that name -/
structure DefAt (K : PySem.W.Frag) (mg : Str → Option Value) (x : Str) (st : Stmt) (ps : List Str) : Prop where
  ex : ∃ (f : Addr) (fd : FuncData), mg x = some (.ref f) ∧ Fun K x x st f fd ∧ Binds K fd ps []
/-- the def under that name keeps to its pure meaning -/
structure FnAt (P : Program) (w : World) (K : PySem.W.Frag) (mg : Str → Option Value) (base : Heap) (D : Wd) (k : Nat) (x : Str) (ps : List Str) (fm : FM) : Prop where
  ex : ∃ (f : Addr) (fd : FuncData), mg x = some (.ref f) ∧ PySem.W.keepIn K (.ref f) = true ∧ Binds K fd ps [] ∧ FnOk P w K mg base (L2.CX P w) k f fd ps (FSp D fm) ∧ ∃ (oc : Value) (od : Option Addr) (sl : Array (Option Value)), K.lookup f = some ⟨oc, od, .func fd, sl⟩
section
variable {P : Program} {w : World} {K : PySem.W.Frag} {mg : Str → Option Value} {base : Heap} {D : Wd}
theorem fn_at {x : Str} {st : Stmt} {N ps : List Str} {k n : Nat} {body : SM} (d : DefAt K mg x st ps) (S : FnScope N ps (defScope st)) (hn : ps.length = n) (hN : n ≤ N.length)
    (hb : ∀ {f : Addr} (cdv : Value) (A : Around) (outer : List Env) (s : Shared) (H : Hp) (E : XK), Room k (A.deeper (PyProof.Rows.envOfC x (defScope st) s.heap.objs.size f cdv)) → Takes (cxB P w K mg base N x (defScope st) f cdv A outer s H E) (fun c d _ H => E c d H) → RSs D (fun c d _ H => E c d H) (cxB P w K mg base N x (defScope st) f cdv A outer s H E) (defBody st) body) :
    FnAt P w K mg base D (k + 1) x ps (fnB n N.length body) := by
  obtain ⟨f, fd, h1, h2, h3⟩ := d.ex
  refine ⟨f, fd, h1, h2.kp, h3, fn_ok h2 S hn hN fun cdv A outer s H E hr => hb cdv A outer s H E hr (takes_of rfl rfl rfl rfl), ?_⟩
  obtain ⟨oc, od, kV, doc, pm, an, cdv, ct, osl, e, l, _⟩ := h2.ex
  exact ⟨oc, od, osl, l⟩
theorem takesB {N : List Str} {qual : Str} {scope : Scope} {f : Addr} {cdv : Value} {A : Around} {outer : List Env} {s : Shared} {H : Hp} {E : XK} : Takes (cxB P w K mg base N qual scope f cdv A outer s H E) (fun c d _ H => E c d H) := takes_of rfl rfl rfl rfl
end
section
variable {D : Wd} {W : WX} {X : Cx} {e : Expr} {es : List Expr} {pos p : Pos} {ms : EM (List AV)} {k : Nat} {ps : List Str} {fm : FM} {x : Str}
theorem re_callA (F : FnAt X.prog X.w X.K X.mg X.base D k x ps fm) (hr : Room k X.A) (tk : Takes X W) (ha : RA D W X (e :: es) ms) (hg : Gl X x := by rfl) (hdb : (x == ("__debug__" : Str)) = false := by decide)
    (he : starEach (e :: es) X.env = (false, eval e X.env) :: starEach es X.env := by rfl) (hpl : (backTo pos (starEach es X.env)).any (·.1) = false := by rfl) : RE D W X (.Call (.Name x p) (e :: es) [] pos) (callE fm ms) := by
  obtain ⟨f, fd, h1, h2, h3, h4, _⟩ := F.ex
  exact re_call h4 hr hg h1 h2 h3 tk ha hdb he hpl
theorem rn_callA (F : FnAt X.prog X.w X.K X.mg X.base D k x ps fm) (hr : Room k X.A) (tk : Takes X W) (ha : RA D W X (e :: es) ms) (hg : Gl X x := by rfl) (hdb : (x == ("__debug__" : Str)) = false := by decide)
    (he : starEach (e :: es) X.env = (false, eval e X.env) :: starEach es X.env := by rfl) (hpl : (backTo pos (starEach es X.env)).any (·.1) = false := by rfl) : RN D W X (.Call (.Name x p) (e :: es) [] pos) (callO fm ms) := by
  obtain ⟨f, fd, h1, h2, h3, h4, _⟩ := F.ex
  exact rn_call h4 hr hg h1 h2 h3 tk ha hdb he hpl
theorem re_callA0 (F : FnAt X.prog X.w X.K X.mg X.base D k x ps fm) (hr : Room k X.A) (tk : Takes X W) (hg : Gl X x := by rfl) (hdb : (x == ("__debug__" : Str)) = false := by decide) : RE D W X (.Call (.Name x p) [] [] pos) (callE fm argNil) := by
  obtain ⟨f, fd, h1, h2, h3, h4, _⟩ := F.ex
  exact re_call0 h4 hr hg h1 h2 h3 tk hdb
theorem rn_callA0 (F : FnAt X.prog X.w X.K X.mg X.base D k x ps fm) (hr : Room k X.A) (tk : Takes X W) (hg : Gl X x := by rfl) (hdb : (x == ("__debug__" : Str)) = false := by decide) : RN D W X (.Call (.Name x p) [] [] pos) (callO fm argNil) := by
  obtain ⟨f, fd, h1, h2, h3, h4, _⟩ := F.ex
  exact rn_call0 h4 hr hg h1 h2 h3 tk hdb
end
end TR

set_option Elab.async false
set_option linter.all false
set_option maxRecDepth 100000
/-! TRO: the law's own call. -/
namespace TR
open PySem PySem.Spec L2
set_option autoImplicit false
theorem reps_ints {D : Wd} {G : Hp} : ∀ ns : List Int, Reps D G (ns.map .int) (ns.map V.int)
  | [] => rfl
  | n :: ns => ⟨_, _, rfl, rfl, reps_ints ns⟩
theorem law_sp {D : Wd} {fm : FM} {H : Hp} {a : Addr} {ns : List Int} (hS : SqL D.K H a (ns.map V.int)) (h : ∃ r, fm [.val (.lst (ns.map .int))] = .ok (.v (.bl true)) r) : FSp D fm [.ref a] H (fun v _ => v = .bl true) fun _ _ _ => False := by
  obtain ⟨r, e⟩ := h
  refine ⟨H, [.val (.lst (ns.map .int))], rfl, ⟨LeG.refl H, rfl, fun i s h => ?_, fun i j b m b' m' c h1 h2 h3 h4 => ?_⟩, ?_⟩
  · cases i with
    | zero =>
      cases h
      exact ⟨_, rfl, a, _, rfl, hS, reps_ints ns⟩
    | succ i => simp at h
  · cases i with
    | zero => cases h1
    | succ i => simp at h1
  · rw [e]
    exact fun G' H' v n rr => rr
theorem cx_no {P : Program} {w : World} {H : Hp} {s : Shared} {e : Value} {s' : Shared} (h : L2.CX P w [] H s (fun _ _ _ => False) e s') : False := by
  obtain ⟨_, _, _, _, _, _, _, _, _, _, _, _, z⟩ := h
  exact z
theorem defAt_mk {K : PySem.W.Frag} {h : Heap} {mg : Str → Option Value} {x : Str} {st : Stmt} {ps : List Str} {f : Addr} {oc : Value} {od an : Option Addr} {osl : Array (Option Value)} {kV doc pm cdv ct : Value} (X : K.In h) (G : h.Ns mainGlobals mg)
    (a : PySem.W.nsIn K mainGlobals x = some (some (.ref f))) (l : K.lookup f = some ⟨oc, od, .func (PySem.W.fnOf x x (defArgs st) (defBody st) (defScope st) .none kV doc pm an cdv ct), osl⟩)
    (c : PySem.W.codeIn K cdv x = true) (k : PySem.W.keepIn K (.ref f) = true)
    (hb : ∀ (kV doc pm : Value) (an : Option Addr) (cdv ct : Value) (us : List Value), us.length = ps.length → bindArgs (PySem.W.fnOf x x (defArgs st) (defBody st) (defScope st) .none kV doc pm an cdv ct) ⟨us, []⟩ = pure (ps.zip us)) : DefAt K mg x st ps :=
  ⟨f, _, PySem.W.mg_of X G a, fun_mk l c k, (fun_mk l c k).binds hb⟩
theorem law_fn {P : Program} {w : World} {K : PySem.W.Frag} {mg : Str → Option Value} {fa : Addr} {D : Wd} {k : Nat} {x y : Str} {fm : FM} {st : Stmt} {oc : Value} {od an : Option Addr} {osl : Array (Option Value)} {kV doc pm cdv ct : Value} {h : Heap} (X : K.In h) (G : h.Ns mainGlobals mg) (hfa : mg x = some (.ref fa))
    {f : Addr} (a : PySem.W.nsIn K mainGlobals x = some (some (.ref f))) (l : K.lookup f = some ⟨oc, od, .func (PySem.W.fnOf x x (defArgs st) (defBody st) (defScope st) .none kV doc pm an cdv ct), osl⟩)
    (c : PySem.W.codeIn K cdv x = true) (kp : PySem.W.keepIn K (.ref f) = true)
    (hb : ∀ (s : Shared) (v : Value), BindsTo s (PySem.W.fnOf x x (defArgs st) (defBody st) (defScope st) .none kV doc pm an cdv ct) ⟨[v], []⟩ [(y, v)])
    (F : ∀ base : Heap, FnAt P w K mg base D k x [y] fm) :
    ∃ fd : FuncData, (∀ (s : Shared) (v : Value), BindsTo s fd ⟨[v], []⟩ [(y, v)]) ∧ ∀ base : Heap, K.In base → base.Ns mainGlobals mg → FnOk P w K mg base (L2.CX P w) k fa fd [y] (FSp D fm) := by
  have e := hfa.symm.trans (PySem.W.mg_of X G a)
  cases e
  refine ⟨_, hb, fun base _ _ => ?_⟩
  obtain ⟨f', fd', h1, _, _, h3, oc', od', sl', l2⟩ := (F base).ex
  have e2 := hfa.symm.trans h1
  cases e2
  rw [l] at l2
  cases l2
  exact h3
end TR

set_option Elab.async false
set_option linter.all false
set_option maxRecDepth 100000
/-! TRP: pure meanings are computed by simp. -/
namespace TR
open PySem PySem.Spec L2
set_option autoImplicit false
section
variable {α β : Type}
@[simp] theorem seq_nxt (ρ : Ev) (k : SM) : (SO.nxt ρ).seq k = k ρ := (rfl)
@[simp] theorem seq_ret (r : Ret) (ρ : Ev) (k : SM) : (SO.ret r ρ).seq k = .ret r ρ := (rfl)
@[simp] theorem seq_brk (ρ : Ev) (k : SM) : (SO.brk ρ).seq k = .brk ρ := (rfl)
@[simp] theorem seq_cnt (ρ : Ev) (k : SM) : (SO.cnt ρ).seq k = .cnt ρ := (rfl)
@[simp] theorem seq_exc (e : Ex) (ρ : Ev) (k : SM) : (SO.exc e ρ).seq k = .exc e ρ := (rfl)
@[simp] theorem seq_stuck (k : SM) : (SO.stuck).seq k = .stuck := (rfl)
@[simp] theorem loop_nxt (ρ : Ev) (k : SM) : loopK k (SO.nxt ρ) = k ρ := (rfl)
@[simp] theorem loop_ret (r : Ret) (ρ : Ev) (k : SM) : loopK k (SO.ret r ρ) = .ret r ρ := (rfl)
@[simp] theorem loop_brk (ρ : Ev) (k : SM) : loopK k (SO.brk ρ) = .nxt ρ := (rfl)
@[simp] theorem loop_cnt (ρ : Ev) (k : SM) : loopK k (SO.cnt ρ) = k ρ := (rfl)
@[simp] theorem loop_exc (e : Ex) (ρ : Ev) (k : SM) : loopK k (SO.exc e ρ) = .exc e ρ := (rfl)
@[simp] theorem loop_stuck (k : SM) : loopK k SO.stuck = .stuck := (rfl)
/-- a choice that waits for its flag -/
def br {γ : Type} (k : Bool) (a b : Ev → γ) (ρ : Ev) : γ := match k with
  | true => a ρ
  | false => b ρ
@[simp] theorem br_true {γ : Type} (a b : Ev → γ) (ρ : Ev) : br true a b ρ = a ρ := (rfl)
@[simp] theorem br_false {γ : Type} (a b : Ev → γ) (ρ : Ev) : br false a b ρ = b ρ := (rfl)
/-! statements -/
@[simp] theorem ev_seq (a b : SM) (ρ : Ev) : seqM a b ρ = (a ρ).seq b := (rfl)
@[simp] theorem ev_skip (ρ : Ev) : skipM ρ = .nxt ρ := (rfl)
@[simp] theorem ev_brk (ρ : Ev) : brkM ρ = .brk ρ := (rfl)
@[simp] theorem ev_cnt (ρ : Ev) : cntM ρ = .cnt ρ := (rfl)
def kE : PV → SM := fun _ ρ => .nxt ρ
@[simp] theorem kE_ (x : PV) (ρ : Ev) : kE x ρ = .nxt ρ := (rfl)
@[simp] theorem ev_expr (m : EM PV) (ρ : Ev) : exprM m ρ = (m ρ).to kE := (rfl)
def kR : PV → SM := fun x ρ => .ret (.v x) ρ
@[simp] theorem kR_ (x : PV) (ρ : Ev) : kR x ρ = .ret (.v x) ρ := (rfl)
@[simp] theorem ev_ret (m : EM PV) (ρ : Ev) : retM m ρ = (m ρ).to kR := (rfl)
def kRO : MO → SM := fun x ρ => .ret (.o x) ρ
@[simp] theorem kRO_ (x : MO) (ρ : Ev) : kRO x ρ = .ret (.o x) ρ := (rfl)
@[simp] theorem ev_retO (m : EM MO) (ρ : Ev) : retO m ρ = (m ρ).to kRO := (rfl)
@[simp] theorem ev_retN (ρ : Ev) : retN ρ = .ret (.v .non) ρ := (rfl)
def rtv : Option Slot → Ev → SO
  | some (.val x), ρ => .ret (.v x) ρ
  | some (.own false m), ρ => .ret (.o m) ρ
  | _, _ => .stuck
@[simp] theorem rtv_val (x : PV) (ρ : Ev) : rtv (some (.val x)) ρ = .ret (.v x) ρ := (rfl)
@[simp] theorem rtv_own (m : MO) (ρ : Ev) : rtv (some (.own false m)) ρ = .ret (.o m) ρ := (rfl)
@[simp] theorem ev_retV (i : Nat) (ρ : Ev) : retV i ρ = rtv ρ[i]? ρ := by
  unfold retV rtv
  split <;> simp_all
def kIf {γ : Type} (a b : Ev → γ) : Bool → Ev → γ := fun k ρ => br k a b ρ
@[simp] theorem kIf_ {γ : Type} (a b : Ev → γ) (k : Bool) (ρ : Ev) : kIf a b k ρ = br k a b ρ := (rfl)
@[simp] theorem ev_if (t : EM Bool) (a b : SM) (ρ : Ev) : ifM t a b ρ = (t ρ).to (kIf a b) := by
  unfold ifM
  cases t ρ with
  | ok k ρ => cases k <;> rfl
  | _ => rfl
def mp : Option Slot → Bool
  | some (.own true _) => false
  | _ => true
@[simp] theorem mp_val (x : PV) : mp (some (.val x)) = true := (rfl)
@[simp] theorem mp_non : mp (some .non) = true := (rfl)
@[simp] theorem mp_own (m : MO) : mp (some (.own false m)) = true := (rfl)
@[simp] theorem ev_may (ρ : Ev) (i : Nat) : mayPut ρ i = mp ρ[i]? := by
  unfold mayPut mp
  split <;> simp_all
@[simp] theorem ev_putV (i : Nat) (x : PV) (ρ : Ev) : putV i x ρ = if mp ρ[i]? = true then .nxt (ρ.set i (.val x)) else .stuck := by unfold putV; rw [ev_may]
@[simp] theorem ev_putO (i : Nat) (x : MO) (ρ : Ev) : putO i x ρ = if mp ρ[i]? = true then .nxt (ρ.set i (.own false x)) else .stuck := by unfold putO; rw [ev_may]
@[simp] theorem ev_tgN (i : Nat) (x : PV) (ρ : Ev) : tgN i x ρ = if mp ρ[i]? = true then some (ρ.set i (.val x)) else none := by unfold tgN; rw [ev_may]
@[simp] theorem ev_set (i : Nat) (m : EM PV) (ρ : Ev) : setM i m ρ = (m ρ).to (putV i) := (rfl)
@[simp] theorem ev_setO (i : Nat) (m : EM MO) (ρ : Ev) : setO i m ρ = (m ρ).to (putO i) := (rfl)
def stx (i : Nat) (k x : PV) : Option Slot → Ev → SO
  | some (.own b m), ρ => (match storeQ m k x with
    | some m' => .nxt (ρ.set i (.own b m'))
    | none => .stuck)
  | _, _ => .stuck
def stq (i : Nat) (b : Bool) : Option MO → Ev → SO
  | some m', ρ => .nxt (ρ.set i (.own b m'))
  | none, _ => .stuck
@[simp] theorem stq_some (i : Nat) (b : Bool) (m : MO) (ρ : Ev) : stq i b (some m) ρ = .nxt (ρ.set i (.own b m)) := (rfl)
@[simp] theorem stx_own (i : Nat) (k x : PV) (b : Bool) (m : MO) (ρ : Ev) : stx i k x (some (.own b m)) ρ = stq i b (storeQ m k x) ρ := by
  show (match storeQ m k x with
    | some m' => SO.nxt (ρ.set i (.own b m'))
    | none => .stuck) = _
  cases storeQ m k x <;> rfl
def kS3 (i : Nat) (x : PV) : PV → SM := fun k ρ => stx i k x ρ[i]? ρ
def kS2 (i : Nat) (mi : EM PV) (x : PV) : PV → SM := fun _ ρ => (mi ρ).to (kS3 i x)
def kS1 (i : Nat) (mi : EM PV) : PV → SM := fun x ρ => (peek i ρ).to (kS2 i mi x)
@[simp] theorem kS3_ (i : Nat) (x k : PV) (ρ : Ev) : kS3 i x k ρ = stx i k x ρ[i]? ρ := (rfl)
@[simp] theorem kS2_ (i : Nat) (mi : EM PV) (x y : PV) (ρ : Ev) : kS2 i mi x y ρ = (mi ρ).to (kS3 i x) := (rfl)
@[simp] theorem kS1_ (i : Nat) (mi : EM PV) (x : PV) (ρ : Ev) : kS1 i mi x ρ = (peek i ρ).to (kS2 i mi x) := (rfl)
@[simp] theorem ev_setIx (i : Nat) (mi mv : EM PV) (ρ : Ev) : setIx i mi mv ρ = (mv ρ).to (kS1 i mi) := by
  unfold setIx kS1 kS2 kS3
  congr 1
  funext x ρ
  congr 1
  funext _ ρ
  congr 1
  funext k ρ
  unfold stx
  cases ρ[i]? with
  | none => rfl
  | some s => cases s <;> rfl
/-! expressions -/
@[simp] theorem ev_cst (x : PV) (ρ : Ev) : cst x ρ = .ok x ρ := (rfl)
def pk : Option Slot → Ev → Out PV
  | some (.val x), ρ => .ok x ρ
  | some (.own _ m), ρ => .ok m.pv ρ
  | _, _ => .stuck
@[simp] theorem pk_val (x : PV) (ρ : Ev) : pk (some (.val x)) ρ = .ok x ρ := (rfl)
@[simp] theorem pk_own (b : Bool) (m : MO) (ρ : Ev) : pk (some (.own b m)) ρ = .ok m.pv ρ := (rfl)
@[simp] theorem ev_peek (i : Nat) (ρ : Ev) : peek i ρ = pk ρ[i]? ρ := by
  unfold peek pk
  cases ρ[i]? with
  | none => rfl
  | some s => cases s <;> rfl
def gv (i : Nat) : Option Slot → Ev → Out PV
  | some (.val x), ρ => .ok x ρ
  | some (.own false m), ρ => .ok m.pv (ρ.set i (.val m.pv))
  | _, _ => .stuck
@[simp] theorem gv_val (i : Nat) (x : PV) (ρ : Ev) : gv i (some (.val x)) ρ = .ok x ρ := (rfl)
@[simp] theorem gv_own (i : Nat) (m : MO) (ρ : Ev) : gv i (some (.own false m)) ρ = .ok m.pv (ρ.set i (.val m.pv)) := (rfl)
@[simp] theorem ev_getv (i : Nat) (ρ : Ev) : getv i ρ = gv i ρ[i]? ρ := by
  unfold getv gv
  split <;> simp_all
@[simp] theorem mo_lst (xs : List PV) : (MO.lst xs).pv = .lst xs := (rfl)
@[simp] theorem mo_obj (c : Nat) (fs : List (Str × PV)) : (MO.obj c fs).pv = .obj c fs := (rfl)
@[simp] theorem mo_dct (xs : List (Key × PV)) : (MO.dct xs).pv = .dct xs := (rfl)
def kB2 (g : PV → PV → Option PV) (x : PV) : PV → Ev → Out PV := fun y ρ => lift (g x y) ρ
def kB1 (g : PV → PV → Option PV) (b : EM PV) : PV → Ev → Out PV := fun x ρ => (b ρ).bind (kB2 g x)
@[simp] theorem kB2_ (g : PV → PV → Option PV) (x y : PV) (ρ : Ev) : kB2 g x y ρ = lift (g x y) ρ := (rfl)
@[simp] theorem kB1_ (g : PV → PV → Option PV) (b : EM PV) (x : PV) (ρ : Ev) : kB1 g b x ρ = (b ρ).bind (kB2 g x) := (rfl)
@[simp] theorem ev_bin (g : PV → PV → Option PV) (a b : EM PV) (ρ : Ev) : TR.bin g a b ρ = (a ρ).bind (kB1 g b) := (rfl)
def kN3 (g : PV → PV → Option PV) (y : PV) : PV → Ev → Out PV := fun x ρ => lift (g x y) ρ
def kN2 (g : PV → PV → Option PV) (i : Nat) : PV → Ev → Out PV := fun y ρ => (peek i ρ).bind (kN3 g y)
def kN1 (g : PV → PV → Option PV) (i : Nat) (b : EM PV) : PV → Ev → Out PV := fun _ ρ => (b ρ).bind (kN2 g i)
@[simp] theorem kN3_ (g : PV → PV → Option PV) (x y : PV) (ρ : Ev) : kN3 g y x ρ = lift (g x y) ρ := (rfl)
@[simp] theorem kN2_ (g : PV → PV → Option PV) (i : Nat) (y : PV) (ρ : Ev) : kN2 g i y ρ = (peek i ρ).bind (kN3 g y) := (rfl)
@[simp] theorem kN1_ (g : PV → PV → Option PV) (i : Nat) (b : EM PV) (x : PV) (ρ : Ev) : kN1 g i b x ρ = (b ρ).bind (kN2 g i) := (rfl)
@[simp] theorem ev_binN (g : PV → PV → Option PV) (i : Nat) (b : EM PV) (ρ : Ev) : binN g i b ρ = (peek i ρ).bind (kN1 g i b) := (rfl)
def kU (g : PV → Option PV) : PV → Ev → Out PV := fun x ρ => lift (g x) ρ
@[simp] theorem kU_ (g : PV → Option PV) (x : PV) (ρ : Ev) : kU g x ρ = lift (g x) ρ := (rfl)
@[simp] theorem ev_un (g : PV → Option PV) (a : EM PV) (ρ : Ev) : TR.un g a ρ = (a ρ).bind (kU g) := (rfl)
def fl : PV → Ev → Out Bool
  | .bl b, ρ => .ok b ρ
  | _, _ => .stuck
@[simp] theorem fl_bl (b : Bool) (ρ : Ev) : fl (.bl b) ρ = .ok b ρ := (rfl)
@[simp] theorem ev_asB (m : EM PV) (ρ : Ev) : asB m ρ = (m ρ).bind fl := by
  unfold asB
  cases m ρ with
  | ok x ρ => cases x <;> rfl
  | _ => rfl
def kT : PV → Ev → Out Bool := fun x ρ => lift (pyTruth x) ρ
@[simp] theorem kT_ (x : PV) (ρ : Ev) : kT x ρ = lift (pyTruth x) ρ := (rfl)
@[simp] theorem ev_truM (m : EM PV) (ρ : Ev) : truM m ρ = (m ρ).bind kT := (rfl)
def kNot : Bool → Ev → Out Bool := fun k ρ => .ok (!k) ρ
@[simp] theorem kNot_ (k : Bool) (ρ : Ev) : kNot k ρ = .ok (!k) ρ := (rfl)
@[simp] theorem ev_not (t : EM Bool) (ρ : Ev) : notM t ρ = (t ρ).bind kNot := (rfl)
def okB (b : Bool) : EM Bool := fun ρ => .ok b ρ
@[simp] theorem okB_ (b : Bool) (ρ : Ev) : okB b ρ = .ok b ρ := (rfl)
@[simp] theorem ev_and (t u : EM Bool) (ρ : Ev) : TR.andM t u ρ = (t ρ).bind (kIf u (okB false)) := by
  unfold TR.andM
  cases t ρ with
  | ok k ρ => cases k <;> rfl
  | _ => rfl
@[simp] theorem ev_or (t u : EM Bool) (ρ : Ev) : orM t u ρ = (t ρ).bind (kIf (okB true) u) := by
  unfold orM
  cases t ρ with
  | ok k ρ => cases k <;> rfl
  | _ => rfl
def stk {γ : Type} : EM γ := fun _ => .stuck
@[simp] theorem stk_ {γ : Type} (ρ : Ev) : (stk ρ : Out γ) = .stuck := (rfl)
def kA2 (b : EM PV) (x : PV) : EM PV := fun ρ => (lift (pyTruth x) ρ).bind (kIf b (cst x))
def kA1 (b : EM PV) : PV → Ev → Out PV := fun x ρ => br (noD x) (kA2 b x) stk ρ
@[simp] theorem kA2_ (b : EM PV) (x : PV) (ρ : Ev) : kA2 b x ρ = (lift (pyTruth x) ρ).bind (kIf b (cst x)) := (rfl)
@[simp] theorem kA1_ (b : EM PV) (x : PV) (ρ : Ev) : kA1 b x ρ = br (noD x) (kA2 b x) stk ρ := (rfl)
def kO2 (b : EM PV) (x : PV) : EM PV := fun ρ => (lift (pyTruth x) ρ).bind (kIf (cst x) b)
def kO1 (b : EM PV) : PV → Ev → Out PV := fun x ρ => br (noD x) (kO2 b x) stk ρ
@[simp] theorem kO2_ (b : EM PV) (x : PV) (ρ : Ev) : kO2 b x ρ = (lift (pyTruth x) ρ).bind (kIf (cst x) b) := (rfl)
@[simp] theorem kO1_ (b : EM PV) (x : PV) (ρ : Ev) : kO1 b x ρ = br (noD x) (kO2 b x) stk ρ := (rfl)
@[simp] theorem ev_andV (a b : EM PV) (ρ : Ev) : andV' a b ρ = (a ρ).bind (kA1 b) := by
  unfold andV' kA1 kA2 kIf cst
  cases a ρ with
  | ok x ρ =>
    simp only [Out.bind_ok]
    cases noD x with
    | false => rfl
    | true =>
      simp only [if_true, br_true]
      cases lift (pyTruth x) ρ with
      | ok k ρ => cases k <;> rfl
      | _ => rfl
  | _ => rfl
@[simp] theorem ev_orV (a b : EM PV) (ρ : Ev) : orV' a b ρ = (a ρ).bind (kO1 b) := by
  unfold orV' kO1 kO2 kIf cst
  cases a ρ with
  | ok x ρ =>
    simp only [Out.bind_ok]
    cases noD x with
    | false => rfl
    | true =>
      simp only [if_true, br_true]
      cases lift (pyTruth x) ρ with
      | ok k ρ => cases k <;> rfl
      | _ => rfl
  | _ => rfl
@[simp] theorem ev_ite {γ : Type} (t : EM Bool) (a b : EM γ) (ρ : Ev) : iteM t a b ρ = (t ρ).bind (kIf a b) := by
  unfold iteM
  cases t ρ with
  | ok k ρ => cases k <;> rfl
  | _ => rfl
@[simp] theorem ev_noP (ρ : Ev) : noP ρ = .ok none ρ := (rfl)
def sp : PV → Ev → Out (Option Int)
  | .int i, ρ => .ok (some i) ρ
  | _, _ => .stuck
@[simp] theorem sp_int (i : Int) (ρ : Ev) : sp (.int i) ρ = .ok (some i) ρ := (rfl)
@[simp] theorem ev_someP (m : EM PV) (ρ : Ev) : someP m ρ = (m ρ).bind sp := by
  unfold someP
  cases m ρ with
  | ok x ρ => cases x <;> rfl
  | _ => rfl
def kL3 (x : PV) (l : Option Int) : Option Int → Ev → Out PV := fun h ρ => lift (pySl x l h) ρ
def kL2 (h : EM (Option Int)) (x : PV) : Option Int → Ev → Out PV := fun l ρ => (h ρ).bind (kL3 x l)
def kL1 (l h : EM (Option Int)) : PV → Ev → Out PV := fun x ρ => (l ρ).bind (kL2 h x)
@[simp] theorem kL3_ (x : PV) (l h : Option Int) (ρ : Ev) : kL3 x l h ρ = lift (pySl x l h) ρ := (rfl)
@[simp] theorem kL2_ (h : EM (Option Int)) (x : PV) (l : Option Int) (ρ : Ev) : kL2 h x l ρ = (h ρ).bind (kL3 x l) := (rfl)
@[simp] theorem kL1_ (l h : EM (Option Int)) (x : PV) (ρ : Ev) : kL1 l h x ρ = (l ρ).bind (kL2 h x) := (rfl)
@[simp] theorem ev_sl (m : EM PV) (l h : EM (Option Int)) (ρ : Ev) : slM m l h ρ = (m ρ).bind (kL1 l h) := (rfl)
def kM4 (l h : Option Int) : PV → Ev → Out PV := fun x ρ => lift (pySl x l h) ρ
def kM3 (i : Nat) (l : Option Int) : Option Int → Ev → Out PV := fun h ρ => (peek i ρ).bind (kM4 l h)
def kM2 (i : Nat) (h : EM (Option Int)) : Option Int → Ev → Out PV := fun l ρ => (h ρ).bind (kM3 i l)
def kM1 (i : Nat) (l h : EM (Option Int)) : PV → Ev → Out PV := fun _ ρ => (l ρ).bind (kM2 i h)
@[simp] theorem kM4_ (x : PV) (l h : Option Int) (ρ : Ev) : kM4 l h x ρ = lift (pySl x l h) ρ := (rfl)
@[simp] theorem kM3_ (i : Nat) (l h : Option Int) (ρ : Ev) : kM3 i l h ρ = (peek i ρ).bind (kM4 l h) := (rfl)
@[simp] theorem kM2_ (i : Nat) (h : EM (Option Int)) (l : Option Int) (ρ : Ev) : kM2 i h l ρ = (h ρ).bind (kM3 i l) := (rfl)
@[simp] theorem kM1_ (i : Nat) (l h : EM (Option Int)) (x : PV) (ρ : Ev) : kM1 i l h x ρ = (l ρ).bind (kM2 i h) := (rfl)
@[simp] theorem ev_slN (i : Nat) (l h : EM (Option Int)) (ρ : Ev) : slN i l h ρ = (peek i ρ).bind (kM1 i l h) := (rfl)
def kI (T : Ty) : PV → Ev → Out PV := fun x ρ => .ok (.bl (isTy x T)) ρ
@[simp] theorem kI_ (T : Ty) (x : PV) (ρ : Ev) : kI T x ρ = .ok (.bl (isTy x T)) ρ := (rfl)
@[simp] theorem ev_isM (m : EM PV) (T : Ty) (ρ : Ev) : isM m T ρ = (m ρ).bind (kI T) := (rfl)
def kF : MO → Ev → Out PV := fun mo ρ => .ok mo.pv ρ
@[simp] theorem kF_ (mo : MO) (ρ : Ev) : kF mo ρ = .ok mo.pv ρ := (rfl)
@[simp] theorem ev_frz (m : EM MO) (ρ : Ev) : frz m ρ = (m ρ).bind kF := (rfl)
/-! arguments -/
@[simp] theorem ev_argNil (ρ : Ev) : argNil ρ = .ok [] ρ := (rfl)
def kV2 (a : AV) : List AV → Ev → Out (List AV) := fun as ρ => .ok (a :: as) ρ
def kV1 (ms : EM (List AV)) : PV → Ev → Out (List AV) := fun x ρ => (ms ρ).bind (kV2 (.v x))
def kW1 (i : Nat) (ms : EM (List AV)) : PV → Ev → Out (List AV) := fun _ ρ => (ms ρ).bind (kV2 (.s i))
@[simp] theorem kV2_ (a : AV) (as : List AV) (ρ : Ev) : kV2 a as ρ = .ok (a :: as) ρ := (rfl)
@[simp] theorem kV1_ (ms : EM (List AV)) (x : PV) (ρ : Ev) : kV1 ms x ρ = (ms ρ).bind (kV2 (.v x)) := (rfl)
@[simp] theorem kW1_ (i : Nat) (ms : EM (List AV)) (x : PV) (ρ : Ev) : kW1 i ms x ρ = (ms ρ).bind (kV2 (.s i)) := (rfl)
@[simp] theorem ev_argV (m : EM PV) (ms : EM (List AV)) (ρ : Ev) : argV m ms ρ = (m ρ).bind (kV1 ms) := (rfl)
@[simp] theorem ev_argN (i : Nat) (ms : EM (List AV)) (ρ : Ev) : argN i ms ρ = (peek i ρ).bind (kW1 i ms) := (rfl)
def sP : Option Slot → Option PV
  | some s => s.peek
  | none => none
@[simp] theorem sP_val (x : PV) : sP (some (.val x)) = some x := (rfl)
@[simp] theorem sP_own (b : Bool) (m : MO) : sP (some (.own b m)) = some m.pv := (rfl)
def consO {γ : Type} (x : γ) : Option (List γ) → Option (List γ)
  | some xs => some (x :: xs)
  | none => none
@[simp] theorem consO_some {γ : Type} (x : γ) (xs : List γ) : consO x (some xs) = some (x :: xs) := (rfl)
def consQ {γ : Type} : Option γ → Option (List γ) → Option (List γ)
  | some x, some xs => some (x :: xs)
  | _, _ => none
@[simp] theorem consQ_some {γ : Type} (x : γ) (xs : List γ) : consQ (some x) (some xs) = some (x :: xs) := (rfl)
@[simp] theorem ev_der0 (ρ : Ev) : derefs [] ρ = some [] := (rfl)
@[simp] theorem ev_derV (x : PV) (r : List AV) (ρ : Ev) : derefs (.v x :: r) ρ = consO x (derefs r ρ) := by rw [derefs]; cases derefs r ρ <;> rfl
@[simp] theorem ev_derS (i : Nat) (r : List AV) (ρ : Ev) : derefs (.s i :: r) ρ = consQ (sP ρ[i]?) (derefs r ρ) := by
  rw [derefs]
  cases ρ[i]? with
  | none => rfl
  | some s =>
    simp only [sP]
    cases s.peek <;> cases derefs r ρ <;> rfl
def kC2 (g : List PV → Option PV) : List PV → Ev → Out PV := fun xs ρ => lift (g xs) ρ
def kC1 (g : List PV → Option PV) : List AV → Ev → Out PV := fun as ρ => (lift (derefs as ρ) ρ).bind (kC2 g)
@[simp] theorem kC2_ (g : List PV → Option PV) (xs : List PV) (ρ : Ev) : kC2 g xs ρ = lift (g xs) ρ := (rfl)
@[simp] theorem kC1_ (g : List PV → Option PV) (as : List AV) (ρ : Ev) : kC1 g as ρ = (lift (derefs as ρ) ρ).bind (kC2 g) := (rfl)
@[simp] theorem ev_callB (g : List PV → Option PV) (ms : EM (List AV)) (ρ : Ev) : callB g ms ρ = (ms ρ).bind (kC1 g) := (rfl)
def smk (g : Str → List PV → Option PV) (ms : EM (List AV)) : PV → Ev → Out PV
  | .str a, ρ => (ms ρ).bind fun as ρ => (lift (derefs as ρ) ρ).bind fun xs ρ => lift (g a xs) ρ
  | _, _ => .stuck
@[simp] theorem smk_str (g : Str → List PV → Option PV) (ms : EM (List AV)) (a : Str) (ρ : Ev) : smk g ms (.str a) ρ = (ms ρ).bind (kC1 (g a)) := (rfl)
@[simp] theorem ev_strM (g : Str → List PV → Option PV) (mo : EM PV) (ms : EM (List AV)) (ρ : Ev) : strM g mo ms ρ = (mo ρ).bind (smk g ms) := by
  unfold strM
  cases mo ρ with
  | ok x ρ => cases x <;> rfl
  | _ => rfl
@[simp] theorem ev_vals0 : vals [] = some [] := (rfl)
@[simp] theorem ev_valsV (x : PV) (r : List AV) : vals (.v x :: r) = consO x (vals r) := by rw [vals]; cases vals r <;> rfl
def lsk : Option (List PV) → Ev → Out MO
  | some xs, ρ => if xs.length ≤ sizeLine then .ok (.lst xs) ρ else .stuck
  | none, _ => .stuck
@[simp] theorem lsk_some (xs : List PV) (ρ : Ev) : lsk (some xs) ρ = if xs.length ≤ sizeLine then .ok (.lst xs) ρ else .stuck := (rfl)
def kLs : List AV → Ev → Out MO := fun as ρ => lsk (vals as) ρ
@[simp] theorem kLs_ (as : List AV) (ρ : Ev) : kLs as ρ = lsk (vals as) ρ := (rfl)
@[simp] theorem ev_lst (ms : EM (List AV)) (ρ : Ev) : lstM ms ρ = (ms ρ).bind kLs := by
  unfold lstM kLs
  cases ms ρ with
  | ok as ρ => simp only [Out.bind_ok]; cases vals as <;> rfl
  | _ => rfl
def tpk : Option (List PV) → Ev → Out PV
  | some xs, ρ => if xs.length ≤ sizeLine then .ok (.tup xs) ρ else .stuck
  | none, _ => .stuck
@[simp] theorem tpk_some (xs : List PV) (ρ : Ev) : tpk (some xs) ρ = if xs.length ≤ sizeLine then .ok (.tup xs) ρ else .stuck := (rfl)
def kTp : List AV → Ev → Out PV := fun as ρ => tpk (vals as) ρ
@[simp] theorem kTp_ (as : List AV) (ρ : Ev) : kTp as ρ = tpk (vals as) ρ := (rfl)
@[simp] theorem ev_tup (ms : EM (List AV)) (ρ : Ev) : tupM ms ρ = (ms ρ).bind kTp := by
  unfold tupM kTp
  cases ms ρ with
  | ok as ρ => simp only [Out.bind_ok]; cases vals as <;> rfl
  | _ => rfl
def lik : PV → Ev → Out MO
  | .lst xs, ρ => .ok (.lst xs) ρ
  | .tup xs, ρ => .ok (.lst xs) ρ
  | _, _ => .stuck
@[simp] theorem lik_lst (xs : List PV) (ρ : Ev) : lik (.lst xs) ρ = .ok (.lst xs) ρ := (rfl)
@[simp] theorem lik_tup (xs : List PV) (ρ : Ev) : lik (.tup xs) ρ = .ok (.lst xs) ρ := (rfl)
@[simp] theorem ev_listM (m : EM PV) (ρ : Ev) : listM m ρ = (m ρ).bind lik := by
  unfold listM
  cases m ρ with
  | ok x ρ => cases x <;> rfl
  | _ => rfl
/-! calls -/
def mkS : Option Slot → Option Slot
  | some (.val x) => some (.val x)
  | some (.own _ m) => some (.own true m)
  | _ => none
@[simp] theorem mkS_val (x : PV) : mkS (some (.val x)) = some (.val x) := (rfl)
@[simp] theorem mkS_own (b : Bool) (m : MO) : mkS (some (.own b m)) = some (.own true m) := (rfl)
@[simp] theorem ev_mk0 (ρ : Ev) : mkArgs [] ρ = some [] := (rfl)
@[simp] theorem ev_mkV (x : PV) (r : List AV) (ρ : Ev) : mkArgs (.v x :: r) ρ = consO (.val x) (mkArgs r ρ) := by rw [mkArgs]; cases mkArgs r ρ <;> rfl
@[simp] theorem ev_mkS (i : Nat) (r : List AV) (ρ : Ev) : mkArgs (.s i :: r) ρ = consQ (mkS ρ[i]?) (mkArgs r ρ) := by
  rw [mkArgs]
  unfold mkS
  cases ρ[i]? with
  | none => rfl
  | some s => cases s <;> cases mkArgs r ρ <;> rfl
def ownI : Option Slot → Bool
  | some (.own _ _) => true
  | _ => false
@[simp] theorem ownI_val (x : PV) : ownI (some (.val x)) = false := (rfl)
@[simp] theorem ownI_own (b : Bool) (m : MO) : ownI (some (.own b m)) = true := (rfl)
@[simp] theorem ev_ow0 (ρ : Ev) : owns [] ρ = [] := (rfl)
@[simp] theorem ev_owV (x : PV) (r : List AV) (ρ : Ev) : owns (.v x :: r) ρ = owns r ρ := (rfl)
@[simp] theorem ev_owS (i : Nat) (r : List AV) (ρ : Ev) : owns (.s i :: r) ρ = if ownI ρ[i]? = true then i :: owns r ρ else owns r ρ := by
  rw [owns]
  unfold ownI
  cases ρ[i]? with
  | none => rfl
  | some s => cases s <;> rfl
def pbk (i : Nat) : Option Slot → Slot → Ev → Ev
  | some (.own b _), .own _ m, ρ => ρ.set i (.own b m)
  | _, _, ρ => ρ
@[simp] theorem pbk_own (i : Nat) (b b' : Bool) (m m' : MO) (ρ : Ev) : pbk i (some (.own b m)) (.own b' m') ρ = ρ.set i (.own b m') := (rfl)
@[simp] theorem pbk_val (i : Nat) (x : PV) (s : Slot) (ρ : Ev) : pbk i (some (.val x)) s ρ = ρ := (rfl)
@[simp] theorem ev_pb0 (ss : List Slot) (ρ : Ev) : putBack [] ss ρ = ρ := by cases ss <;> rfl
@[simp] theorem ev_pbV (x : PV) (r : List AV) (s : Slot) (ss : List Slot) (ρ : Ev) : putBack (.v x :: r) (s :: ss) ρ = putBack r ss ρ := (rfl)
@[simp] theorem ev_pbS (i : Nat) (r : List AV) (s : Slot) (ss : List Slot) (ρ : Ev) : putBack (.s i :: r) (s :: ss) ρ = putBack r ss (pbk i ρ[i]? s ρ) := by
  rw [putBack_s]
  unfold pbk
  split <;> simp_all
def aft (as : List AV) (ρ : Ev) : FOut → Out Ret
  | .ok r ss => .ok r (putBack as ss ρ)
  | .exc e ss => .exc e (putBack as ss ρ)
  | .stuck => .stuck
@[simp] theorem aft_ok (as : List AV) (ρ : Ev) (r : Ret) (ss : List Slot) : aft as ρ (.ok r ss) = .ok r (putBack as ss ρ) := (rfl)
@[simp] theorem aft_exc (as : List AV) (ρ : Ev) (e : Ex) (ss : List Slot) : aft as ρ (.exc e ss) = .exc e (putBack as ss ρ) := (rfl)
def apS (f : FM) (as : List AV) (ρ : Ev) : Option (List Slot) → Out Ret
  | some ss => if (owns as ρ).Nodup then aft as ρ (f ss) else .stuck
  | none => .stuck
@[simp] theorem apS_some (f : FM) (as : List AV) (ρ : Ev) (ss : List Slot) : apS f as ρ (some ss) = if (owns as ρ).Nodup then aft as ρ (f ss) else .stuck := (rfl)
theorem ev_applyF (f : FM) (as : List AV) (ρ : Ev) : applyF f as ρ = apS f as ρ (mkArgs as ρ) := by
  unfold applyF apS
  cases mkArgs as ρ with
  | none => rfl
  | some ss =>
    simp only
    split
    · cases f ss <;> rfl
    · rfl
def kAp (f : FM) : List AV → Ev → Out Ret := fun as ρ => apS f as ρ (mkArgs as ρ)
@[simp] theorem kAp_ (f : FM) (as : List AV) (ρ : Ev) : kAp f as ρ = apS f as ρ (mkArgs as ρ) := (rfl)
@[simp] theorem ev_callF (f : FM) (ms : EM (List AV)) (ρ : Ev) : callF f ms ρ = (ms ρ).bind (kAp f) := by
  unfold callF
  congr 1
  funext as ρ
  exact ev_applyF f as ρ
def kPv : Ret → Ev → Out PV := fun r ρ => .ok r.pv ρ
@[simp] theorem kPv_ (r : Ret) (ρ : Ev) : kPv r ρ = .ok r.pv ρ := (rfl)
@[simp] theorem ev_callE (f : FM) (ms : EM (List AV)) (ρ : Ev) : callE f ms ρ = (callF f ms ρ).bind kPv := (rfl)
def rk : Ret → Ev → Out MO
  | .o m, ρ => .ok m ρ
  | .v _, _ => .stuck
@[simp] theorem rk_o (m : MO) (ρ : Ev) : rk (.o m) ρ = .ok m ρ := (rfl)
@[simp] theorem ev_callO (f : FM) (ms : EM (List AV)) (ρ : Ev) : callO f ms ρ = (callF f ms ρ).bind rk := by
  unfold callO
  cases callF f ms ρ with
  | ok r ρ => cases r <;> rfl
  | _ => rfl
@[simp] theorem ret_v (x : PV) : (Ret.v x).pv = x := (rfl)
@[simp] theorem ret_o (m : MO) : (Ret.o m).pv = m.pv := (rfl)
/-! defs -/
def fin (n : Nat) (as : List Slot) : SO → FOut
  | .nxt ρ => if n ≤ ρ.length then .ok (.v .non) (back as ρ) else .stuck
  | .ret r ρ => if n ≤ ρ.length then .ok r (back as ρ) else .stuck
  | .exc e ρ => if n ≤ ρ.length then .exc e (back as ρ) else .stuck
  | _ => .stuck
@[simp] theorem fin_nxt (n : Nat) (as : List Slot) (ρ : Ev) : fin n as (.nxt ρ) = if n ≤ ρ.length then .ok (.v .non) (back as ρ) else .stuck := (rfl)
@[simp] theorem fin_ret (n : Nat) (as : List Slot) (r : Ret) (ρ : Ev) : fin n as (.ret r ρ) = if n ≤ ρ.length then .ok r (back as ρ) else .stuck := (rfl)
@[simp] theorem fin_exc (n : Nat) (as : List Slot) (e : Ex) (ρ : Ev) : fin n as (.exc e ρ) = if n ≤ ρ.length then .exc e (back as ρ) else .stuck := (rfl)
theorem ev_fn (n N : Nat) (body : SM) (as : List Slot) : fnB n N body as = if as.length = n then fin n as (body (enter N as)) else .stuck := by
  unfold fnB fin
  split
  · cases body (enter N as) <;> rfl
  · rfl
@[simp] theorem back_nil (ρ : Ev) : back [] ρ = [] := by cases ρ <;> rfl
@[simp] theorem back_own (b : Bool) (m : MO) (as : List Slot) (s : Slot) (ρ : Ev) : back (.own b m :: as) (s :: ρ) = s :: back as ρ := (rfl)
@[simp] theorem back_val (x : PV) (as : List Slot) (s : Slot) (ρ : Ev) : back (.val x :: as) (s :: ρ) = .val x :: back as ρ := (rfl)
/-! operators -/
@[simp] theorem add_int (i j : Int) : pyAdd (.int i) (.int j) = some (.int (i + j)) := (rfl)
@[simp] theorem sub_int (i j : Int) : pySub (.int i) (.int j) = some (.int (i - j)) := (rfl)
@[simp] theorem mod_int (i j : Int) : pyMod (.int i) (.int j) = if 0 < j then some (.int (i % j)) else none := (rfl)
@[simp] theorem mul_int (i j : Int) : pyMul (.int i) (.int j) = if CMulW i j then some (.int (i * j)) else none := (rfl)
@[simp] theorem div_int (i j : Int) : pyDiv (.int i) (.int j) = if CDivW i j then some (.int (i / j)) else none := (rfl)
@[simp] theorem pow_int (i j : Int) : pyPow (.int i) (.int j) = if CPowW i j then some (.int (i ^ j.toNat)) else none := (rfl)
@[simp] theorem neg_int (i : Int) : pyNeg (.int i) = some (.int (-i)) := (rfl)
@[simp] theorem lt_int (i j : Int) : pyLt (.int i) (.int j) = some (.bl (decide (i < j))) := (rfl)
@[simp] theorem le_int (i j : Int) : pyLe (.int i) (.int j) = some (.bl (decide (i ≤ j))) := (rfl)
@[simp] theorem gt_int (i j : Int) : pyGt (.int i) (.int j) = some (.bl (decide (j < i))) := (rfl)
@[simp] theorem ge_int (i j : Int) : pyGe (.int i) (.int j) = some (.bl (decide (j ≤ i))) := (rfl)
@[simp] theorem eq_int (i j : Int) : pyEq (.int i) (.int j) = some (.bl (decide (i = j))) := (rfl)
@[simp] theorem ne_int (i j : Int) : pyNe (.int i) (.int j) = some (.bl (!decide (i = j))) := (rfl)
@[simp] theorem eq_str (i j : Str) : pyEq (.str i) (.str j) = some (.bl (decide (i = j))) := (rfl)
@[simp] theorem ne_str (i j : Str) : pyNe (.str i) (.str j) = some (.bl (!decide (i = j))) := (rfl)
@[simp] theorem eq_bl (i j : Bool) : pyEq (.bl i) (.bl j) = some (.bl (i == j)) := by cases i <;> cases j <;> rfl
@[simp] theorem add_str (a b : Str) : pyAdd (.str a) (.str b) = if a.length + b.length ≤ sizeLine then some (.str (a ++ b)) else none := (rfl)
@[simp] theorem lt_str (a b : Str) : pyLt (.str a) (.str b) = some (.bl (decide (a.cps.toList < b.cps.toList))) := (rfl)
@[simp] theorem ix_lst (xs : List PV) (i : Int) : pyIx (.lst xs) (.int i) = atI xs i := (rfl)
@[simp] theorem ix_tup (xs : List PV) (i : Int) : pyIx (.tup xs) (.int i) = atI xs i := (rfl)
theorem ix_str (s : Str) (i : Int) : pyIx (.str s) (.int i) = if s.length ≤ sizeLine then (atI s.cps.toList i).map fun c => .str ⟨#[c]⟩ else none := rfl
@[simp] theorem tr_bl (b : Bool) : pyTruth (.bl b) = some b := (rfl)
@[simp] theorem tr_int (i : Int) : pyTruth (.int i) = some (i != 0) := (rfl)
@[simp] theorem tr_non : pyTruth .non = some false := (rfl)
@[simp] theorem noD_bl (b : Bool) : noD (.bl b) = true := (rfl)
@[simp] theorem not_bl (b : Bool) : pyNot (.bl b) = some (.bl (!b)) := (rfl)
@[simp] theorem isty_int_int (i : Int) : isTy (.int i) .int = true := (rfl)
@[simp] theorem isty_int_str (i : Int) : isTy (.int i) .str = false := (rfl)
@[simp] theorem isty_int_bool (i : Int) : isTy (.int i) .bool = false := (rfl)
@[simp] theorem isty_str_str (i : Str) : isTy (.str i) .str = true := (rfl)
@[simp] theorem isty_str_int (i : Str) : isTy (.str i) .int = false := (rfl)
@[simp] theorem isty_str_bool (i : Str) : isTy (.str i) .bool = false := (rfl)
@[simp] theorem isty_bl_bool (i : Bool) : isTy (.bl i) .bool = true := (rfl)
@[simp] theorem isty_bl_int (i : Bool) : isTy (.bl i) .int = true := (rfl)
@[simp] theorem isty_bl_str (i : Bool) : isTy (.bl i) .str = false := (rfl)
@[simp] theorem isty_non (T : Ty) : isTy .non T = false := by cases T <;> rfl
@[simp] theorem is_non (x : PV) (h : x = .non) : pyIs x .non = some (.bl true) := by subst h; rfl
@[simp] theorem is_bl (a b : Bool) : pyIs (.bl a) (.bl b) = some (.bl (a == b)) := (rfl)
@[simp] theorem isnot_bl (a b : Bool) : pyIsNot (.bl a) (.bl b) = some (.bl (!(a == b))) := (rfl)
@[simp] theorem is_non_non : pyIs .non .non = some (.bl true) := (rfl)
@[simp] theorem is_int_non (i : Int) : pyIs (.int i) .non = some (.bl false) := (rfl)
@[simp] theorem is_str_non (i : Str) : pyIs (.str i) .non = some (.bl false) := (rfl)
@[simp] theorem isnot_non_non : pyIsNot .non .non = some (.bl false) := (rfl)
@[simp] theorem isnot_int_non (i : Int) : pyIsNot (.int i) .non = some (.bl true) := (rfl)
@[simp] theorem isnot_str_non (i : Str) : pyIsNot (.str i) .non = some (.bl true) := (rfl)
@[simp] theorem len_lst (xs : List PV) : bLen [.lst xs] = some (.int xs.length) := (rfl)
@[simp] theorem len_tup (xs : List PV) : bLen [.tup xs] = some (.int xs.length) := (rfl)
@[simp] theorem len_str (s : Str) : bLen [.str s] = if s.length ≤ sizeLine then some (.int s.length) else none := (rfl)
@[simp] theorem int_int (i : Int) : bInt [.int i] = some (.int i) := (rfl)
@[simp] theorem bool_bl (i : Bool) : bBool [.bl i] = some (.bl i) := (rfl)
@[simp] theorem max_int (i j : Int) : bMax [.int i, .int j] = some (.int (if j > i then j else i)) := (rfl)
@[simp] theorem store_lst (xs : List PV) (i : Int) (x : PV) : storeQ (.lst xs) (.int i) x = (ixN xs.length i).map fun j => .lst (xs.set j x) := (rfl)
end
end TR

set_option Elab.async false
set_option linter.all false
set_option maxRecDepth 100000
/-! TRQ: loops and comprehensions are computed. -/
namespace TR
open PySem PySem.Spec L2
set_option autoImplicit false
def sv : Option Slot → Bool
  | some (.own _ _) => false
  | _ => true
@[simp] theorem sv_val (x : PV) : sv (some (.val x)) = true := (rfl)
@[simp] theorem sv_non : sv (some .non) = true := (rfl)
@[simp] theorem ev_save0 (ρ : Ev) : saveOk ρ [] = true := (rfl)
@[simp] theorem ev_save (ρ : Ev) (v : Nat) (vs : List Nat) : saveOk ρ (v :: vs) = (sv ρ[v]? && saveOk ρ vs) := by
  unfold saveOk
  rw [List.all_cons]
  rfl
@[simp] theorem ev_wipe0 (ρ : Ev) : wipeE ρ [] = ρ := (rfl)
@[simp] theorem ev_wipe (ρ : Ev) (v : Nat) (vs : List Nat) : wipeE ρ (v :: vs) = (wipeE ρ vs).set v .non := (rfl)
@[simp] theorem ev_rest0 (ρ0 ρ : Ev) : restE ρ0 [] ρ = ρ := (rfl)
@[simp] theorem ev_rest (ρ0 ρ : Ev) (v : Nat) (vs : List Nat) : restE ρ0 (v :: vs) ρ = (restE ρ0 vs ρ).set v (ρ0.getD v .non) := (rfl)
@[simp] theorem ev_noT (ρ : Ev) : noT ρ = .ok true ρ := (rfl)
def kIv : PV → Ev → Out (List PV)
  | .lst xs, ρ => .ok xs ρ
  | .tup xs, ρ => .ok xs ρ
  | .str s, ρ => .ok (chrs s) ρ
  | _, _ => .stuck
@[simp] theorem kIv_lst (xs : List PV) (ρ : Ev) : kIv (.lst xs) ρ = .ok xs ρ := (rfl)
@[simp] theorem kIv_tup (xs : List PV) (ρ : Ev) : kIv (.tup xs) ρ = .ok xs ρ := (rfl)
@[simp] theorem kIv_str (s : Str) (ρ : Ev) : kIv (.str s) ρ = .ok (chrs s) ρ := (rfl)
@[simp] theorem ev_itV (m : EM PV) (ρ : Ev) : itV m ρ = (m ρ).bind kIv := by
  unfold itV
  cases m ρ with
  | ok x ρ => cases x <;> rfl
  | _ => rfl
def kI1 : PV → Ev → Out (List PV)
  | .int j, ρ => if okR j = true then .ok (rng 0 j.toNat) ρ else .stuck
  | _, _ => .stuck
@[simp] theorem kI1_int (j : Int) (ρ : Ev) : kI1 (.int j) ρ = if okR j = true then .ok (rng 0 j.toNat) ρ else .stuck := (rfl)
@[simp] theorem ev_itR1 (m : EM PV) (ρ : Ev) : itR1 m ρ = (m ρ).bind kI1 := by
  unfold itR1
  cases m ρ with
  | ok x ρ => cases x <;> rfl
  | _ => rfl
def kI3 : PV → PV → Ev → Out (List PV)
  | .int i, .int j, ρ => if (okR i && okR j) = true then .ok (rng i (j - i).toNat) ρ else .stuck
  | _, _, _ => .stuck
def kI2 (b : EM PV) : PV → Ev → Out (List PV) := fun x ρ => (b ρ).bind (kI3 x)
@[simp] theorem kI3_int (i j : Int) (ρ : Ev) : kI3 (.int i) (.int j) ρ = if (okR i && okR j) = true then .ok (rng i (j - i).toNat) ρ else .stuck := (rfl)
@[simp] theorem kI2_ (b : EM PV) (x : PV) (ρ : Ev) : kI2 b x ρ = (b ρ).bind (kI3 x) := (rfl)
@[simp] theorem ev_itR2 (a b : EM PV) (ρ : Ev) : itR2 a b ρ = (a ρ).bind (kI2 b) := by
  unfold itR2 kI2
  congr 1
  funext x ρ
  congr 1
  funext y ρ
  cases x <;> cases y <;> rfl
theorem okR_small {i : Int} (h1 : -1000000 ≤ i) (h2 : i ≤ 1000000) : okR i = true := by
  unfold okR
  rw [Bool.and_eq_true, decide_eq_true_eq, decide_eq_true_eq]
  omega
def kLs2 : List PV → Ev → Out MO := fun ys ρ => .ok (.lst ys) ρ
@[simp] theorem kLs2_ (ys : List PV) (ρ : Ev) : kLs2 ys ρ = .ok (.lst ys) ρ := (rfl)
def kCm (vs : List Nat) (tg : Tg) (t : EM Bool) (e : EM PV) : List PV → Ev → Out MO := fun xs ρ => if saveOk ρ vs = true then (cmpL vs tg t e xs [] ρ).bind kLs2 else .stuck
@[simp] theorem kCm_ (vs : List Nat) (tg : Tg) (t : EM Bool) (e : EM PV) (xs : List PV) (ρ : Ev) : kCm vs tg t e xs ρ = if saveOk ρ vs = true then (cmpL vs tg t e xs [] ρ).bind kLs2 else .stuck := (rfl)
@[simp] theorem ev_cmp (vs : List Nat) (mi : EM (List PV)) (tg : Tg) (t : EM Bool) (e : EM PV) (ρ : Ev) : cmpM vs mi tg t e ρ = (mi ρ).bind (kCm vs tg t e) := (rfl)
@[simp] theorem cmpL_nil (vs : List Nat) (tg : Tg) (t : EM Bool) (e : EM PV) (acc : List PV) (ρ : Ev) : cmpL vs tg t e [] acc ρ = .ok acc ρ := (rfl)
/-- a comprehension, by what holds between the turns -/
theorem cmpL_rule {vs : List Nat} {tg : Tg} {t : EM Bool} {e : EM PV} (R : List PV → List PV → Ev → Prop)
    (step : ∀ x xs acc ρ, R (x :: xs) acc ρ → ∃ ρ1 b ρ2, tg x (wipeE ρ vs) = some ρ1 ∧ t ρ1 = .ok b ρ2 ∧ (b = true → ∃ y ρ3, e ρ2 = .ok y ρ3 ∧ acc.length < sizeLine ∧ R xs (acc ++ [y]) (restE ρ vs ρ3)) ∧ (b = false → R xs acc (restE ρ vs ρ2))) :
    ∀ (xs acc : List PV) (ρ : Ev), R xs acc ρ → ∃ ys ρ', cmpL vs tg t e xs acc ρ = .ok ys ρ' ∧ R [] ys ρ'
  | [], acc, ρ, h => ⟨acc, ρ, rfl, h⟩
  | x :: xs, acc, ρ, h => by
    obtain ⟨ρ1, b, ρ2, e1, e2, e3, e4⟩ := step x xs acc ρ h
    rw [cmpL]
    simp only [e1, e2, noX, Out.bind_ok]
    cases b with
    | true =>
      obtain ⟨y, ρ3, e5, hz, r⟩ := e3 rfl
      obtain ⟨ys, ρ', q1, q2⟩ := cmpL_rule R step xs _ _ r
      refine ⟨ys, ρ', ?_, q2⟩
      simp only [e5, noX, Out.bind_ok, if_pos hz]
      exact q1
    | false => exact cmpL_rule R step xs _ _ (e4 rfl)
/-- the same without a test: the items are made one by one -/
theorem cmpL_map {vs : List Nat} {tg : Tg} {e : EM PV} (R : List PV → List PV → Ev → Prop)
    (step : ∀ x xs acc ρ, R (x :: xs) acc ρ → ∃ ρ1 y ρ3, tg x (wipeE ρ vs) = some ρ1 ∧ e ρ1 = .ok y ρ3 ∧ acc.length < sizeLine ∧ R xs (acc ++ [y]) (restE ρ vs ρ3)) (xs acc : List PV) (ρ : Ev) (h : R xs acc ρ) :
    ∃ ys ρ', cmpL vs tg noT e xs acc ρ = .ok ys ρ' ∧ R [] ys ρ' :=
  cmpL_rule R (fun x xs acc ρ r => by
    obtain ⟨ρ1, y, ρ3, h1, h2, h3, h4⟩ := step x xs acc ρ r
    exact ⟨ρ1, true, ρ1, h1, rfl, fun _ => ⟨y, ρ3, h2, h3, h4⟩, fun z => nomatch z⟩) xs acc ρ h
/-! for -/
def kFr (tg : Tg) (body : SM) : List PV → SM := fun xs ρ => frL tg body xs ρ
@[simp] theorem kFr_ (tg : Tg) (body : SM) (xs : List PV) (ρ : Ev) : kFr tg body xs ρ = frL tg body xs ρ := (rfl)
@[simp] theorem ev_frM (m : EM (List PV)) (tg : Tg) (body : SM) (ρ : Ev) : frM m tg body ρ = (m ρ).to (kFr tg body) := (rfl)
@[simp] theorem frL_nil (tg : Tg) (body : SM) (ρ : Ev) : frL tg body [] ρ = .nxt ρ := (rfl)
/-- a loop, by what holds ahead of each turn -/
theorem frL_rule {tg : Tg} {body : SM} (R : List PV → Ev → Prop) (Q : SO → Prop)
    (step : ∀ x xs ρ, R (x :: xs) ρ → ∃ ρ1, tg x ρ = some ρ1 ∧ ((∃ ρ2, (body ρ1 = .nxt ρ2 ∨ body ρ1 = .cnt ρ2) ∧ R xs ρ2) ∨ (∃ r ρ2, body ρ1 = .ret r ρ2 ∧ Q (.ret r ρ2)) ∨ (∃ ρ2, body ρ1 = .brk ρ2 ∧ Q (.nxt ρ2)) ∨ ∃ x ρ2, body ρ1 = .exc x ρ2 ∧ Q (.exc x ρ2)))
    (done : ∀ ρ, R [] ρ → Q (.nxt ρ)) : ∀ (xs : List PV) (ρ : Ev), R xs ρ → Q (frL tg body xs ρ)
  | [], ρ, h => done ρ h
  | x :: xs, ρ, h => by
    obtain ⟨ρ1, e1, e2⟩ := step x xs ρ h
    rw [frL]
    simp only [e1]
    rcases e2 with ⟨ρ2, e2 | e2, r⟩ | ⟨r, ρ2, e2, q⟩ | ⟨ρ2, e2, q⟩ | ⟨x, ρ2, e2, q⟩
    · rw [e2]; exact frL_rule R Q step done xs ρ2 r
    · rw [e2]; exact frL_rule R Q step done xs ρ2 r
    · rw [e2]; exact q
    · rw [e2]; exact q
    · rw [e2]; exact q
/-! while -/
theorem whM_eqn (c : EM Bool) (b : SM) (ρ : Ev) : whM c b ρ = (c ρ).to fun k ρ => match k with
    | true => loopK (whM c b) (b ρ)
    | false => .nxt ρ := by
  by_cases h : ∃ n, (whF c b n ρ).live = true
  · obtain ⟨n, hn⟩ := h
    cases n with
    | zero => cases hn
    | succ n =>
      rw [whM_eq hn, whF_succ]
      rw [whF_succ] at hn
      cases q : c ρ with
      | stuck => rfl
      | exc e ρ' => rfl
      | ok k ρ' =>
        rw [q] at hn
        cases k with
        | false => rfl
        | true => exact (loopK_mono (k := whF c b n) (fun ρ h => whM_eq h) hn).symm
  · have e : whM c b ρ = .stuck := by
      unfold whM
      rw [dif_neg h]
    rw [e]
    cases q : c ρ with
    | stuck => rfl
    | exc x ρ' => exact absurd ⟨1, by rw [whF_succ, q]; rfl⟩ h
    | ok k ρ' =>
      cases k with
      | false => exact absurd ⟨1, by rw [whF_succ, q]; rfl⟩ h
      | true =>
        show SO.stuck = loopK (whM c b) (b ρ')
        have key : ∀ ρ2, (b ρ' = .nxt ρ2 ∨ b ρ' = .cnt ρ2) → whM c b ρ2 = .stuck := fun ρ2 hb => by
          unfold whM
          rw [dif_neg]
          rintro ⟨n, hn⟩
          refine h ⟨n + 1, ?_⟩
          rw [whF_succ, q]
          show (loopK (whF c b n) (b ρ')).live = true
          rcases hb with hb | hb <;> (rw [hb]; exact hn)
        cases hb : b ρ' with
        | nxt ρ2 => exact (key ρ2 (.inl hb)).symm
        | cnt ρ2 => exact (key ρ2 (.inr hb)).symm
        | stuck => rfl
        | brk ρ2 => exact absurd ⟨1, by rw [whF_succ, q]; show (loopK _ (b ρ')).live = true; rw [hb]; rfl⟩ h
        | ret r ρ2 => exact absurd ⟨1, by rw [whF_succ, q]; show (loopK _ (b ρ')).live = true; rw [hb]; rfl⟩ h
        | exc x ρ2 => exact absurd ⟨1, by rw [whF_succ, q]; show (loopK _ (b ρ')).live = true; rw [hb]; rfl⟩ h
/-! texts -/
theorem strsOf_map (ss : List Str) : strsOf (ss.map .str) = some ss := by
  induction ss with
  | nil => rfl
  | cons s ss ih => rw [List.map_cons, strsOf, ih]; rfl
@[simp] theorem join_lst (a : Str) (ss : List Str) : sJoin a [.lst (ss.map .str)] = if joinOk a ss = true then some (.str (Txt.join a ss)) else none := by
  show (strsOf (ss.map .str)).bind _ = _
  rw [strsOf_map]
  rfl
@[simp] theorem starts_str (a b : Str) : sStarts a [.str b] = some (.bl (Txt.startswith a b)) := (rfl)
end TR

set_option Elab.async false
set_option linter.all false
set_option maxRecDepth 100000
/-! TRS: texts as lists of signs. -/
namespace TR
open PySem PySem.Spec L2
set_option autoImplicit false
/-- a text's signs -/
def L (s : Str) : List Nat := s.cps.toList
theorem L_inj {a b : Str} (h : L a = L b) : a = b := by
  cases a; cases b
  simp only [L] at h
  congr 1
  exact Array.toList_inj.mp h
theorem L_len (s : Str) : s.length = (L s).length := rfl
@[simp] theorem L_app (a b : Str) : L (a ++ b) = L a ++ L b := by
  show (a.cps ++ b.cps).toList = _
  rw [Array.toList_append]
  rfl
@[simp] theorem L_mk (l : List Nat) : L ⟨l.toArray⟩ = l := rfl
theorem L_cut (s : Str) (lo hi : Option Int) : L (cutS s lo hi) = ((L s).drop (HT.sIx s.length 0 lo)).take (HT.sIx s.length s.length hi - HT.sIx s.length 0 lo) := rfl
theorem cut_upto (s : Str) (n : Nat) : L (cutS s none (some (n : Int))) = (L s).take n := by
  rw [L_cut, HT.sIx_none, HT.sIx_nat, List.drop_zero, Nat.sub_zero, Nat.min_comm]
  show List.take (min (L s).length n) (L s) = _
  rw [List.take_eq_take_iff]
  omega
theorem join_is (a : Str) (ss : List Str) : Txt.join a ss = Str.join a ss := PySem.StrLaws.glued_eq_join a ss
theorem L_join (ss : List Str) : L (Txt.join ⟨#[]⟩ ss) = ss.flatMap L := by
  rw [join_is]
  induction ss with
  | nil => rfl
  | cons a r ih =>
    cases r with
    | nil => simp [Str.join]
    | cons b r =>
      rw [Str.join]
      · simp only [L_app] at ih ⊢
        rw [ih]
        show L a ++ [] ++ _ = _
        simp
      · simp
theorem L_empty : L (Str.ofString "") = [] := by decide
theorem empty_is : Str.ofString "" = ⟨#[]⟩ := by decide
/-- the signs as texts -/
def chs (cs : List Nat) : List PV := cs.map fun c => .str ⟨#[c]⟩
@[simp] theorem chs_nil : chs [] = [] := rfl
theorem chs_app (a b : List Nat) : chs (a ++ b) = chs a ++ chs b := List.map_append
theorem chs_snoc (a : List Nat) (c : Nat) : chs a ++ [.str ⟨#[c]⟩] = chs (a ++ [c]) := (chs_app a [c]).symm
@[simp] theorem chs_len (a : List Nat) : (chs a).length = a.length := List.length_map _
theorem chrs_is (s : Str) : chrs s = chs (L s) := rfl
theorem join_chs {cs : List Nat} (h : cs.length ≤ 16777216) : sJoin (Str.ofString "") [.lst (chs cs)] = some (.str ⟨cs.toArray⟩) := by
  have mp : chs cs = (cs.map fun c => (⟨#[c]⟩ : Str)).map PV.str := by unfold chs; rw [List.map_map]; rfl
  have sm : ((cs.map fun c => (⟨#[c]⟩ : Str)).map (·.length)).sum = cs.length := by
    clear h mp
    induction cs with
    | nil => rfl
    | cons c cs ih => rw [List.map_cons, List.map_cons, List.sum_cons, ih, List.length_cons, Nat.add_comm]; rfl
  have jo : joinOk (Str.ofString "") (cs.map fun c => (⟨#[c]⟩ : Str)) = true := by
    unfold joinOk
    rw [decide_eq_true_eq, sm, empty_is]
    show cs.length + _ * 0 ≤ _
    omega
  have jn : Txt.join (Str.ofString "") (cs.map fun c => (⟨#[c]⟩ : Str)) = ⟨cs.toArray⟩ := by
    refine L_inj ?_
    rw [empty_is, L_join, L_mk, List.flatMap_map]
    exact List.flatMap_singleton' cs
  rw [mp, join_lst, if_pos jo, jn]
theorem ix_sign {s : Str} {i : Int} (hs : s.length ≤ sizeLine) (h0 : 0 ≤ i) (h1 : i < (L s).length) : ∃ c, c ∈ L s ∧ pyIx (.str s) (.int i) = some (.str ⟨#[c]⟩) := by
  have hl : i.toNat < (L s).length := by omega
  refine ⟨(L s)[i.toNat], List.getElem_mem _, ?_⟩
  rw [TR.ix_str, if_pos hs]
  have : atI s.cps.toList i = some (L s)[i.toNat] := by
    unfold atI ixN
    have h1' : i < (s.cps.toList.length : Int) := h1
    rw [if_pos h0, if_pos h1']
    exact List.getElem?_eq_getElem hl
  rw [this]
  rfl
end TR

set_option Elab.async false
set_option linter.all false
set_option maxRecDepth 100000
/-! TRT: more evaluation: methods, items. -/
namespace TR
open PySem PySem.Spec L2
set_option autoImplicit false
def me2 (i : Nat) (b : Bool) : Option (PV × List PV) → Ev → Out PV
  | some (z, ys), ρ => .ok z (ρ.set i (.own b (.lst ys)))
  | none, _ => .stuck
@[simp] theorem me2_ (i : Nat) (b : Bool) (z : PV) (ys : List PV) (ρ : Ev) : me2 i b (some (z, ys)) ρ = .ok z (ρ.set i (.own b (.lst ys))) := (rfl)
def me1 (g : List PV → List PV → Option (PV × List PV)) (i : Nat) : Option (List PV) → Option Slot → Ev → Out PV
  | some args, some (.own b (.lst xs)), ρ => me2 i b (g xs args) ρ
  | _, _, _ => .stuck
@[simp] theorem me1_ (g : List PV → List PV → Option (PV × List PV)) (i : Nat) (args xs : List PV) (b : Bool) (ρ : Ev) : me1 g i (some args) (some (.own b (.lst xs))) ρ = me2 i b (g xs args) ρ := (rfl)
def kMe (g : List PV → List PV → Option (PV × List PV)) (i : Nat) : List AV → Ev → Out PV := fun as ρ => me1 g i (vals as) ρ[i]? ρ
@[simp] theorem kMe_ (g : List PV → List PV → Option (PV × List PV)) (i : Nat) (as : List AV) (ρ : Ev) : kMe g i as ρ = me1 g i (vals as) ρ[i]? ρ := (rfl)
def me0 (g : List PV → List PV → Option (PV × List PV)) (i : Nat) (ms : EM (List AV)) : Option Slot → Ev → Out PV
  | some (.own _ (.lst _)), ρ => (ms ρ).bind (kMe g i)
  | _, _ => .stuck
@[simp] theorem me0_ (g : List PV → List PV → Option (PV × List PV)) (i : Nat) (ms : EM (List AV)) (b : Bool) (xs : List PV) (ρ : Ev) : me0 g i ms (some (.own b (.lst xs))) ρ = (ms ρ).bind (kMe g i) := (rfl)
@[simp] theorem ev_meth (g : List PV → List PV → Option (PV × List PV)) (i : Nat) (ms : EM (List AV)) (ρ : Ev) : methM g i ms ρ = me0 g i ms ρ[i]? ρ := by
  have k : ∀ (as : List AV) (ρ : Ev), (match vals as, ρ[i]? with
      | some args, some (.own b (.lst xs)) => (match g xs args with
        | some (z, ys) => Out.ok z (ρ.set i (.own b (.lst ys)))
        | none => .stuck)
      | _, _ => .stuck) = kMe g i as ρ := by
    intro as ρ
    rw [kMe_]
    unfold me1
    cases vals as with
    | none => rfl
    | some args =>
      cases ρ[i]? with
      | none => rfl
      | some s =>
        cases s with
        | own b m =>
          cases m with
          | lst xs =>
            show (match g xs args with
              | some (z, ys) => Out.ok z (ρ.set i (.own b (.lst ys)))
              | none => .stuck) = me2 i b (g xs args) ρ
            cases g xs args with
            | none => rfl
            | some p => cases p; rfl
          | dct _ => rfl
          | obj _ _ => rfl
        | _ => rfl
  unfold methM me0
  cases ρ[i]? with
  | none => rfl
  | some s =>
    cases s with
    | own b m =>
      cases m with
      | lst xs =>
        show (ms ρ).bind _ = (ms ρ).bind _
        congr 1
        funext as ρ
        exact k as ρ
      | dct _ => rfl
      | obj _ _ => rfl
    | _ => rfl
@[simp] theorem app_one (xs : List PV) (x : PV) : lAppend xs [x] = if xs.length < sizeLine then some (.non, xs ++ [x]) else none := (rfl)
theorem rng_mem {n : Nat} {x : PV} (h : x ∈ rng 0 n) : ∃ i : Nat, i < n ∧ x = .int i := by
  obtain ⟨i, hi⟩ := List.getElem?_of_mem h
  have hl : i < n := by
    have := (List.getElem?_eq_some_iff.mp hi).1
    rwa [rng_len] at this
  rw [rng_get hl] at hi
  cases hi
  exact ⟨i, hl, by simp⟩
/-- an item by a place that is there -/
theorem ix_at {xs : List PV} {i : Nat} {x : PV} (h : xs[i]? = some x) : pyIx (.lst xs) (.int i) = some x := by
  have hl := (List.getElem?_eq_some_iff.mp h).1
  rw [ix_lst]
  unfold atI ixN
  rw [if_pos (by omega), if_pos (by omega)]
  simpa using h
end TR

set_option Elab.async false
set_option linter.all false
set_option maxRecDepth 100000
/-! TRU: dict displays, constants of the top. -/
namespace TR
open PySem PySem.Spec L2
set_option autoImplicit false
section
variable {D : Wd} {W : WX} {X : Cx} {k v e : Expr} {pos p : Pos} {ks : List (Option Expr)} {vs : List Expr} {mk mv : EM PV}

/-! ### {k: v, ..} -/
def RepPs (D : Wd) (G : Hp) : List (PV × PV) → List (V × V) → Prop
  | [], ws => ws = []
  | (x, y) :: r, ws => ∃ a b t, ws = (a, b) :: t ∧ Rep D G x a ∧ Rep D G y b ∧ RepPs D G r t
def tPr (D : Wd) (W : WX) (m : EM (List (PV × PV))) : St → Hp → (List (V × V) → Hp → Prop) → Prop := fun σ H Q => ∃ G ρ, Abs D G H σ ρ ∧ Kg D W (m ρ) G H σ ρ fun ps ρ' G' H' => ∀ ws, RepPs D G' ps ws → Q ws H'
structure RPr (D : Wd) (W : WX) (X : Cx) (pos : Pos) (ks : List (Option Expr)) (vs : List Expr) (m : EM (List (PV × PV))) : Prop where
  ex : ∃ trs, PPs X pos ks vs trs ∧ ∀ σ H Q, tPr D W m σ H Q → tPairs trs σ H Q
def prN : EM (List (PV × PV)) := fun ρ => .ok [] ρ
def prC (mk mv : EM PV) (ms : EM (List (PV × PV))) : EM (List (PV × PV)) := fun ρ => (mk ρ).bind fun x ρ => (mv ρ).bind fun y ρ => (ms ρ).bind fun ps ρ => .ok ((x, y) :: ps) ρ
theorem rpr_nil : RPr D W X pos [] [] prN := ⟨[], pps_nil, fun σ H Q ⟨G, ρ, A, k⟩ => k G H (Nx.refl A) [] rfl⟩
theorem rpr_cons {ms : EM (List (PV × PV))} (hk : RE D W X k mk) (hv : RE D W X v mv) (hr : RPr D W X pos ks vs ms) : RPr D W X pos (some k :: ks) (v :: vs) (prC mk mv ms) := by
  obtain ⟨trs, h1, h2⟩ := hr.ex
  refine ⟨_, pps_cons hk hv h1, fun σ H Q ⟨G, ρ, A, k⟩ => ⟨G, ρ, A, (Kg.bind k).mono fun x ρ1 G1 H1 n1 k1 a ra => ⟨G1, ρ1, n1.abs, (Kg.bind k1).mono fun y ρ2 G2 H2 n2 k2 b rb => h2 σ H2 _ ⟨G2, ρ2, n2.abs, (Kg.bind k2).mono fun ps ρ3 G3 H3 n3 k3 ws rw' => ?_⟩⟩⟩⟩
  exact k3 G3 H3 (Nx.refl n3.abs) _ ⟨a, b, ws, rfl, (ra.mono n2.leg).mono n3.leg, rb.mono n3.leg, rw'⟩
def keysOf : List (PV × PV) → Option (List (Key × PV))
  | [] => some []
  | (x, y) :: r => match keyOf x, keysOf r with
    | some k, some t => some ((k, y) :: t)
    | _, _ => none
def mergeP (kvs more : List (Key × PV)) : List (Key × PV) := more.foldl (fun acc kv => dput acc kv.1 kv.2) kvs
theorem repd_merge {G : Hp} : ∀ {more : List (Key × PV)} {ws : List (Key × V)} {kvs : List (Key × PV)} {us : List (Key × V)}, RepD D G more ws → RepD D G kvs us → RepD D G (mergeP kvs more) (mergeK us ws)
  | [], _, kvs, us, h, k => by rw [show _ = [] from h]; exact k
  | (j, x) :: more, _, kvs, us, h, k => by
    obtain ⟨v, r, rfl, h1, h2⟩ := h
    show RepD D G (mergeP (dput kvs j x) more) (mergeK (putK us j v) r)
    exact repd_merge h2 (repd_put k h1)
theorem keysOf_rep {G H : Hp} (le : LeG G H) : ∀ {ps : List (PV × PV)} {ws : List (V × V)} {kvs : List (Key × PV)}, RepPs D G ps ws → keysOf ps = some kvs → ∃ us : List (Key × V), ws = us.map (fun kv => (kV kv.1, kv.2)) ∧ RepD D G kvs us ∧ us.length = kvs.length
  | [], _, _, h, e => by cases e; exact ⟨[], h, rfl, rfl⟩
  | (x, y) :: r, _, _, h, e => by
    obtain ⟨a, b, t, rfl, h1, h2, h3⟩ := h
    rw [keysOf] at e
    cases q1 : keyOf x with
    | none => rw [q1] at e; cases e
    | some key =>
      cases q2 : keysOf r with
      | none => rw [q1, q2] at e; cases e
      | some kvs =>
        rw [q1, q2] at e; cases e
        obtain ⟨us, rfl, k2, k3⟩ := keysOf_rep le h3 q2
        have hk := key_rep (H := H) q1 (h1.toH le)
        subst hk
        exact ⟨(key, b) :: us, rfl, ⟨b, us, rfl, h2, k2⟩, by simp [k3]⟩
def dctM (ms : EM (List (PV × PV))) : EM MO := fun ρ => (ms ρ).bind fun ps ρ => match keysOf ps with
  | some kvs => if kvs.length ≤ 15 then .ok (.dct (mergeP [] kvs)) ρ else .stuck
  | none => .stuck
def dct0 : EM MO := fun ρ => .ok (.dct []) ρ
theorem rn_dct0 : RN D W X (.Dict [] [] pos) dct0 := pe_dnewK.imp fun σ H Q ⟨G, ρ, A, k⟩ q hq => by
  exact new_own (mo := .dct []) (Nx.refl A) hq ⟨[], upd_same, rfl⟩ k
theorem free_of {G H : Hp} {σ : St} {ρ : Ev} {a : Addr} (A : Abs D G H σ ρ) (ha : H a = none) : G a = none ∧ ¬ Ow σ ρ a := by
  refine ⟨?_, fun w => ?_⟩
  · cases z : G a with
    | none => rfl
    | some u =>
      have z2 := A.le a u z
      rw [ha] at z2; cases z2
  · obtain ⟨⟨o, ho⟩, _⟩ := A.ow_some w
    rw [ha] at ho; cases ho
theorem rn_dct {ms : EM (List (PV × PV))} (h : RPr D W X pos (some k :: ks) (v :: vs) ms) (hall : (some k :: ks).all (·.isSome) = true := by rfl) (hl : (some k :: ks).length = (v :: vs).length := by rfl) (h15 : (some k :: ks).length ≤ 15 := by decide) :
    RN D W X (.Dict (some k :: ks) (v :: vs) pos) (dctM ms) := by
  obtain ⟨trs, h1, h2⟩ := h.ex
  refine (pe_disp h1 hall hl (fun z => nomatch z) h15).imp fun σ H Q ⟨G, ρ, A, k⟩ q hq => h2 σ _ _ ?_
  obtain ⟨gq, oq⟩ := free_of A hq
  have n0 : Nx D G H σ ρ G (upd H q (.dK [])) σ ρ := nx_new (Nx.refl A) hq gq oq
  refine ⟨G, ρ, n0.abs, ?_⟩
  unfold dctM at k
  cases e : ms ρ with
  | stuck => rw [e] at k; exact k
  | exc x ρ' =>
    rw [e] at k
    exact fun G' H' c d n er => k G' H' c d (n0.trans n) er
  | ok ps ρ1 =>
    rw [e] at k
    simp only [Out.bind_ok] at k
    intro G1 H1 n1 ws rw'
    have hq1 : H1 q = some (.dK []) := n1.k q _ upd_same oq
    have n2 := n0.trans n1
    have g1 : G1 q = none := by
      cases z : G1 q with
      | none => rfl
      | some u =>
        rcases n1.f q u z with w | w | w
        · rw [gq] at w; cases w
        · rw [upd_same] at w; cases w
        · exact absurd w.ow oq
    have o1 : ¬ Ow σ ρ1 q := fun w => by
      rcases n1.w q w with w | w
      · exact oq w
      · rw [upd_same] at w; cases w
    split at k
    · rename_i kvs ek
      split at k
      · rename_i hz
        obtain ⟨us, rfl, r1, r2⟩ := keysOf_rep n1.abs.le rw' ek
        refine ⟨hq1, us, rfl, by rw [r2]; exact hz, ?_⟩
        exact k G1 _ (nx_new n2 hq g1 o1) q g1 hq ⟨_, upd_same, repd_merge r1 rfl⟩ o1
      · exact False.elim k
    · exact False.elim k

/-! ### constants of the top -/
structure GlV (D : Wd) (mg : Str → Option Value) (x : Str) (y : PV) : Prop where
  ex : ∃ (u : Value) (v : V), mg x = some u ∧ RelV v u ∧ ∀ G, Rep D G y v
theorem re_glob {x : Str} {y : PV} (h : GlV D X.mg x y) (hg : Gl X x := by rfl) (hd : (x == ("__debug__" : Str)) = false := by decide) : RE D W X (.Name x p) (cst y) := by
  obtain ⟨u, v, h1, h2, h3⟩ := h.ex
  exact re_cst (pe_glob hg h1 h2 hd) h3
/-- a constant's value and its plain form -/
def KV1 (D : Wd) (u : Value) (y : PV) : Prop := ∃ v, RelV v u ∧ ∀ G, Rep D G y v
theorem kv_str {s : Str} {t : Tok} : KV1 D (.str s t) (.str s) := ⟨.str s, ⟨t, rfl⟩, fun _ => rfl⟩
theorem kv_int {s : Int} {t : Tok} : KV1 D (.int s t) (.int s) := ⟨.int s, ⟨t, rfl⟩, fun _ => rfl⟩
theorem kv_bl {s : Bool} : KV1 D (.bool s) (.bl s) := ⟨.bl s, rfl, fun _ => rfl⟩
theorem kv_non : KV1 D .none .non := ⟨.non, rfl, fun _ => rfl⟩
inductive KVs (D : Wd) : List Value → List PV → Prop
  | nil : KVs D [] []
  | cons {u : Value} {us : List Value} {y : PV} {ys : List PV} (h : KV1 D u y) (t : KVs D us ys) : KVs D (u :: us) (y :: ys)
theorem KVs.out {us : List Value} {ys : List PV} (h : KVs D us ys) : ∃ vs, Vals vs us ∧ (∀ G, Reps D G ys vs) ∧ us.length = ys.length := by
  induction h with
  | nil => exact ⟨[], .nil, fun _ => rfl, rfl⟩
  | cons h t ih =>
    obtain ⟨v, h1, h2⟩ := h
    obtain ⟨vs, h3, h4, h5⟩ := ih
    exact ⟨v :: vs, .cons h1 h3, fun G => ⟨v, vs, rfl, h2 G, h4 G⟩, by simp [h5]⟩
theorem kv_tup {a : Addr} {dd : Option Addr} {its : Array Value} {n : Nat} {sl : Array (Option Value)} {ys : List PV} (l : D.K.lookup a = some ⟨.type "tuple", dd, .seq its n, sl⟩) (h : KVs D its.toList ys) (hz : ys.length ≤ 1000) : KV1 D (.ref a) (.tup ys) := by
  obtain ⟨vs, h1, h2, h3⟩ := h.out
  refine ⟨.ref a, rfl, fun G => ⟨a, vs, rfl, .inr ⟨_, its, n, l, rfl, rfl, ?_, h1⟩, h2 G⟩⟩
  have : its.size = ys.length := by rw [← h3]; simp
  rw [this, sizeLine_eq]
  omega
theorem kv_lst {a : Addr} {its : Array Value} {n : Nat} {sl : Array (Option Value)} {ys : List PV} (l : D.K.lookup a = some ⟨.type "list", none, .seq its n, sl⟩) (h : KVs D its.toList ys) (hz : ys.length ≤ 1000) : KV1 D (.ref a) (.lst ys) := by
  obtain ⟨vs, h1, h2, h3⟩ := h.out
  refine ⟨.ref a, rfl, fun G => ⟨a, vs, rfl, .inr ⟨_, its, n, l, rfl, rfl, rfl, ?_, h1⟩, h2 G⟩⟩
  have : its.size = ys.length := by rw [← h3]; simp
  rw [this, sizeLine_eq]
  omega
theorem glv_mk {K : PySem.W.Frag} {h : Heap} {mg : Str → Option Value} {x : Str} {u : Value} {y : PV} (X : K.In h) (G : h.Ns mainGlobals mg) (a : PySem.W.nsIn K mainGlobals x = some (some u)) (k : KV1 D u y) : GlV D mg x y := by
  obtain ⟨v, h1, h2⟩ := k
  exact ⟨u, v, PySem.W.mg_of X G a, h1, h2⟩
/-! evaluation -/
@[simp] theorem ev_prN (ρ : Ev) : prN ρ = .ok [] ρ := (rfl)
def kP3 (x y : PV) : List (PV × PV) → Ev → Out (List (PV × PV)) := fun ps ρ => .ok ((x, y) :: ps) ρ
def kP2 (ms : EM (List (PV × PV))) (x : PV) : PV → Ev → Out (List (PV × PV)) := fun y ρ => (ms ρ).bind (kP3 x y)
def kP1 (mv : EM PV) (ms : EM (List (PV × PV))) : PV → Ev → Out (List (PV × PV)) := fun x ρ => (mv ρ).bind (kP2 ms x)
@[simp] theorem kP3_ (x y : PV) (ps : List (PV × PV)) (ρ : Ev) : kP3 x y ps ρ = .ok ((x, y) :: ps) ρ := (rfl)
@[simp] theorem kP2_ (ms : EM (List (PV × PV))) (x y : PV) (ρ : Ev) : kP2 ms x y ρ = (ms ρ).bind (kP3 x y) := (rfl)
@[simp] theorem kP1_ (mv : EM PV) (ms : EM (List (PV × PV))) (x : PV) (ρ : Ev) : kP1 mv ms x ρ = (mv ρ).bind (kP2 ms x) := (rfl)
@[simp] theorem ev_prC (mk mv : EM PV) (ms : EM (List (PV × PV))) (ρ : Ev) : prC mk mv ms ρ = (mk ρ).bind (kP1 mv ms) := (rfl)
def dck : Option (List (Key × PV)) → Ev → Out MO
  | some kvs, ρ => if kvs.length ≤ 15 then .ok (.dct (mergeP [] kvs)) ρ else .stuck
  | none, _ => .stuck
@[simp] theorem dck_ (kvs : List (Key × PV)) (ρ : Ev) : dck (some kvs) ρ = if kvs.length ≤ 15 then .ok (.dct (mergeP [] kvs)) ρ else .stuck := (rfl)
def kDc : List (PV × PV) → Ev → Out MO := fun ps ρ => dck (keysOf ps) ρ
@[simp] theorem kDc_ (ps : List (PV × PV)) (ρ : Ev) : kDc ps ρ = dck (keysOf ps) ρ := (rfl)
@[simp] theorem ev_dct (ms : EM (List (PV × PV))) (ρ : Ev) : dctM ms ρ = (ms ρ).bind kDc := by
  unfold dctM
  congr 1
  funext ps ρ
  rw [kDc_]
  unfold dck
  cases keysOf ps <;> rfl
@[simp] theorem ev_dct0 (ρ : Ev) : dct0 ρ = .ok (.dct []) ρ := (rfl)
end
end TR

set_option Elab.async false
set_option linter.all false
set_option maxRecDepth 100000
/-! TRV: == and in, of texts and lists of texts; loops that look for a first. -/
namespace TR
open PySem PySem.Spec L2
set_option autoImplicit false
@[simp] theorem eq_sn (s : Str) : pyEq (.str s) .non = some (.bl false) := (rfl)
@[simp] theorem eq_ns (s : Str) : pyEq .non (.str s) = some (.bl false) := (rfl)
@[simp] theorem eq_nn : pyEq .non .non = some (.bl true) := (rfl)
@[simp] theorem ne_sn (s : Str) : pyNe (.str s) .non = some (.bl true) := (rfl)
@[simp] theorem ne_ns (s : Str) : pyNe .non (.str s) = some (.bl true) := (rfl)
@[simp] theorem ne_nn : pyNe .non .non = some (.bl false) := (rfl)
/-- a text of real signs -/
def Uni (s : Str) : Prop := ∀ c ∈ L s, c < 1114112
theorem uni_ok {s : Str} (h : Uni s) : PySem.PyData.strOk s = true := by
  unfold PySem.PyData.strOk
  rw [Array.all_eq_true_iff_forall_mem]
  intro c hc
  exact decide_eq_true (h c (Array.mem_toList_iff.mpr hc))
theorem dat_str {s : Str} (h : Uni s) : (PV.str s).dat = some (.str s) := by
  have e : SeqAt.shaped (.str s) = true := by
    unfold SeqAt.shaped
    rw [Bool.and_eq_true]
    refine ⟨uni_ok h, ?_⟩
    rw [decide_eq_true_eq]
    exact Nat.zero_le _
  unfold PV.dat
  rw [PV.toD]
  simp only [e, if_true]
theorem toDs_strs : ∀ ss : List Str, toDs (ss.map .str) = some (ss.map .str)
  | [] => rfl
  | s :: ss => by rw [List.map_cons, toDs, PV.toD, toDs_strs ss]; rfl
theorem lay_strs : ∀ {ss : List Str}, (∀ s ∈ ss, Uni s) → PyData.canLayAll0 (ss.map .str) = true
  | [], _ => rfl
  | s :: ss, h => by
    rw [List.map_cons, PyData.canLayAll0, Bool.and_eq_true]
    exact ⟨uni_ok (h s List.mem_cons_self), lay_strs fun t ht => h t (List.mem_cons_of_mem _ ht)⟩
theorem dep_strs : ∀ {ss : List Str}, PyData.depthAll (ss.map .str) ≤ 1
  | [] => by simp [PyData.depthAll]
  | s :: ss => by
    rw [List.map_cons, PyData.depthAll]
    have := dep_strs (ss := ss)
    simp only [PyData.depth]
    omega
theorem any_strs {s : Str} : ∀ {ss : List Str}, ((ss.map PyData.str).any fun z => PyData.eqv z (.str s)) = decide (s ∈ ss)
  | [] => by simp
  | t :: ss => by
    rw [List.map_cons, List.any_cons, any_strs]
    simp only [PyData.eqv, List.mem_cons]
    by_cases h : t = s
    · subst h; simp
    · have h2 : ¬ s = t := fun e => h e.symm
      have h3 : (t == s) = false := by rw [beq_eq_false_iff_ne]; exact h
      simp [h2, h3]
theorem dat_tup {ss : List Str} (h : ∀ s ∈ ss, Uni s) : (PV.tup (ss.map .str)).dat = some (.tuple (ss.map .str)) := by
  unfold PV.dat
  rw [PV.toD, toDs_strs]
  have e : SeqAt.shaped (.tuple (ss.map PyData.str)) = true := by
    unfold SeqAt.shaped
    rw [Bool.and_eq_true]
    refine ⟨lay_strs h, ?_⟩
    rw [decide_eq_true_eq, PyData.depth]
    have := dep_strs (ss := ss)
    omega
  simp only [Option.map_some, e, if_true]
theorem dat_lst {ss : List Str} (h : ∀ s ∈ ss, Uni s) : (PV.lst (ss.map .str)).dat = some (.list (ss.map .str)) := by
  unfold PV.dat
  rw [PV.toD, toDs_strs]
  have e : SeqAt.shaped (.list (ss.map PyData.str)) = true := by
    unfold SeqAt.shaped
    rw [Bool.and_eq_true]
    refine ⟨lay_strs h, ?_⟩
    rw [decide_eq_true_eq, PyData.depth]
    have := dep_strs (ss := ss)
    omega
  simp only [Option.map_some, e, if_true]
theorem inQ_tup {s : Str} {ss : List Str} (hs : Uni s) (h : ∀ t ∈ ss, Uni t) : inQ (.str s) (.tup (ss.map .str)) = some (decide (s ∈ ss)) := by
  rw [inQ, dat_str hs, dat_tup h]
  simp only
  rw [any_strs]
theorem inQ_lst {s : Str} {ss : List Str} (hs : Uni s) (h : ∀ t ∈ ss, Uni t) : inQ (.str s) (.lst (ss.map .str)) = some (decide (s ∈ ss)) := by
  rw [inQ, dat_str hs, dat_lst h]
  simp only
  rw [any_strs]
theorem in_tup {s : Str} {ss : List Str} (hs : Uni s) (h : ∀ t ∈ ss, Uni t) : pyIn (.str s) (.tup (ss.map .str)) = some (.bl (decide (s ∈ ss))) := by
  unfold pyIn
  rw [inQ_tup hs h]
  rfl
theorem in_lst {s : Str} {ss : List Str} (hs : Uni s) (h : ∀ t ∈ ss, Uni t) : pyIn (.str s) (.lst (ss.map .str)) = some (.bl (decide (s ∈ ss))) := by
  unfold pyIn
  rw [inQ_lst hs h]
  rfl
@[simp] theorem in_sgn (c : Nat) (s : Str) : pyIn (.str ⟨#[c]⟩) (.str s) = some (.bl (decide (c ∈ L s))) := (rfl)
@[simp] theorem notin_sgn (c : Nat) (s : Str) : pyNotIn (.str ⟨#[c]⟩) (.str s) = some (.bl (!decide (c ∈ L s))) := (rfl)
/-- a loop that ends at the first item that does not do -/
theorem all_loop {tg : Tg} {body : SM} {ok : PV → Bool} (ρs : Ev → Prop) (r : Ret) (hit : ∀ x ρ, ρs ρ → ok x = false → ∃ ρ1 ρ2, tg x ρ = some ρ1 ∧ body ρ1 = .ret r ρ2 ∧ ρs ρ2) (go : ∀ x ρ, ρs ρ → ok x = true → ∃ ρ1 ρ2, tg x ρ = some ρ1 ∧ body ρ1 = .nxt ρ2 ∧ ρs ρ2) :
    ∀ (xs : List PV) (ρ : Ev), ρs ρ → ∃ ρ2, ρs ρ2 ∧ frL tg body xs ρ = if xs.all ok = true then .nxt ρ2 else .ret r ρ2
  | [], ρ, h => ⟨ρ, h, rfl⟩
  | x :: xs, ρ, h => by
    rw [frL]
    cases e : ok x with
    | false =>
      obtain ⟨ρ1, ρ2, e1, e2, h2⟩ := hit x ρ h e
      refine ⟨ρ2, h2, ?_⟩
      simp [e1, e2, e]
    | true =>
      obtain ⟨ρ1, ρ2, e1, e2, h2⟩ := go x ρ h e
      obtain ⟨ρ3, h3, e3⟩ := all_loop ρs r hit go xs ρ2 h2
      refine ⟨ρ3, h3, ?_⟩
      simp [e1, e2, e, e3]
/-- a comprehension that keeps the items that do -/
theorem filter_cmp {vs : List Nat} {tg : Tg} {t : EM Bool} {e : EM PV} {ok : PV → Bool} (ρ : Ev) (xs : List PV) (hz : xs.length ≤ 1000000) (st : ∀ x ∈ xs, ∃ ρ1, tg x (wipeE ρ vs) = some ρ1 ∧ t ρ1 = .ok (ok x) ρ1 ∧ e ρ1 = .ok x ρ1 ∧ restE ρ vs ρ1 = ρ) :
    cmpL vs tg t e xs [] ρ = .ok (xs.filter ok) ρ := by
  have sz := sizeLine_eq
  have key : ∀ (ys acc : List PV), (∀ x ∈ ys, x ∈ xs) → acc.length + ys.length ≤ 1000000 → cmpL vs tg t e ys acc ρ = .ok (acc ++ ys.filter ok) ρ := by
    intro ys
    induction ys with
    | nil => intro acc _ _; simp
    | cons x ys ih =>
      intro acc hm hl
      simp only [List.length_cons] at hl
      obtain ⟨ρ1, e1, e2, e3, e4⟩ := st x (hm x List.mem_cons_self)
      rw [cmpL]
      simp only [e1, e2, noX, Out.bind_ok]
      cases h : ok x with
      | true =>
        have : acc.length < sizeLine := by omega
        simp only [e3, Out.bind_ok, if_pos this, e4]
        rw [ih _ (fun y hy => hm y (List.mem_cons_of_mem _ hy)) (by simp; omega), List.filter_cons_of_pos h]
        simp
      | false =>
        simp only [e4]
        rw [ih _ (fun y hy => hm y (List.mem_cons_of_mem _ hy)) (by omega), List.filter_cons_of_neg (by simp [h])]
  have := key xs [] (fun _ h => h) (by simpa using hz)
  simpa using this
/-- .. over the signs of a text -/
theorem all_signs {tg : Tg} {body : SM} (p : Nat → Bool) (ρs : Ev → Prop) (r : Ret) (hit : ∀ c ρ, ρs ρ → p c = false → ∃ ρ1 ρ2, tg (.str ⟨#[c]⟩) ρ = some ρ1 ∧ body ρ1 = .ret r ρ2 ∧ ρs ρ2) (go : ∀ c ρ, ρs ρ → p c = true → ∃ ρ1 ρ2, tg (.str ⟨#[c]⟩) ρ = some ρ1 ∧ body ρ1 = .nxt ρ2 ∧ ρs ρ2) :
    ∀ (cs : List Nat) (ρ : Ev), ρs ρ → ∃ ρ2, ρs ρ2 ∧ frL tg body (chs cs) ρ = if cs.all p = true then .nxt ρ2 else .ret r ρ2
  | [], ρ, h => ⟨ρ, h, rfl⟩
  | c :: cs, ρ, h => by
    rw [show chs (c :: cs) = .str ⟨#[c]⟩ :: chs cs from rfl, frL]
    cases e : p c with
    | false =>
      obtain ⟨ρ1, ρ2, e1, e2, h2⟩ := hit c ρ h e
      refine ⟨ρ2, h2, ?_⟩
      simp [e1, e2, e]
    | true =>
      obtain ⟨ρ1, ρ2, e1, e2, h2⟩ := go c ρ h e
      obtain ⟨ρ3, h3, e3⟩ := all_signs p ρs r hit go cs ρ2 h2
      refine ⟨ρ3, h3, ?_⟩
      simp [e1, e2, e, e3]
theorem filter_signs {vs : List Nat} {tg : Tg} {t : EM Bool} {e : EM PV} (p : Nat → Bool) (ρ : Ev) (cs : List Nat) (hz : cs.length ≤ 1000000) (st : ∀ c ∈ cs, ∃ ρ1, tg (.str ⟨#[c]⟩) (wipeE ρ vs) = some ρ1 ∧ t ρ1 = .ok (p c) ρ1 ∧ e ρ1 = .ok (.str ⟨#[c]⟩) ρ1 ∧ restE ρ vs ρ1 = ρ) :
    cmpL vs tg t e (chs cs) [] ρ = .ok (chs (cs.filter p)) ρ := by
  have sz := sizeLine_eq
  have key : ∀ (ys acc : List Nat), (∀ x ∈ ys, x ∈ cs) → acc.length + ys.length ≤ 1000000 → cmpL vs tg t e (chs ys) (chs acc) ρ = .ok (chs (acc ++ ys.filter p)) ρ := by
    intro ys
    induction ys with
    | nil => intro acc _ _; simp
    | cons x ys ih =>
      intro acc hm hl
      simp only [List.length_cons] at hl
      obtain ⟨ρ1, e1, e2, e3, e4⟩ := st x (hm x List.mem_cons_self)
      rw [show chs (x :: ys) = .str ⟨#[x]⟩ :: chs ys from rfl, cmpL]
      simp only [e1, e2, noX, Out.bind_ok]
      cases h : p x with
      | true =>
        have : (chs acc).length < sizeLine := by rw [chs_len]; omega
        simp only [e3, Out.bind_ok, if_pos this, e4, chs_snoc]
        rw [ih _ (fun y hy => hm y (List.mem_cons_of_mem _ hy)) (by simp; omega), List.filter_cons_of_pos h]
        simp
      | false =>
        simp only [e4]
        rw [ih _ (fun y hy => hm y (List.mem_cons_of_mem _ hy)) (by omega), List.filter_cons_of_neg (by simp [h])]
  have := key cs [] (fun _ h => h) (by simpa using hz)
  simpa using this
theorem filter_len {p : Nat → Bool} : ∀ {cs : List Nat}, (decide (((cs.filter fun c => !p c).length : Int) = 0)) = cs.all p
  | [] => by simp
  | c :: cs => by
    cases h : p c with
    | true =>
      rw [List.filter_cons_of_neg (by simp [h]), filter_len, List.all_cons, h, Bool.true_and]
    | false =>
      rw [List.filter_cons_of_pos (by simp [h]), List.all_cons, h, Bool.false_and]
      simp only [List.length_cons]
      exact decide_eq_false (by omega)
theorem filter_nil {p : Nat → Bool} {cs : List Nat} : (decide ((cs.filter fun c => !p c) = [])) = cs.all p := by
  rw [← filter_len]
  rw [decide_eq_decide]
  constructor
  · intro h; rw [h]; rfl
  · intro h; exact List.eq_nil_of_length_eq_zero (by omega)
/-! a < b < c -/
def kX4 (g' : PV → PV → Option PV) (y : PV) : PV → Ev → Out PV := fun w ρ => lift (g' y w) ρ
def kX5 (g' : PV → PV → Option PV) (c : EM PV) (y : PV) : EM PV := fun ρ => (c ρ).bind (kX4 g' y)
def kX3 (g' : PV → PV → Option PV) (c : EM PV) (y : PV) : PV → Ev → Out PV
  | .bl b, ρ => br b (kX5 g' c y) (cst (.bl false)) ρ
  | _, _ => .stuck
def kX2 (g g' : PV → PV → Option PV) (c : EM PV) (x : PV) : PV → Ev → Out PV := fun y ρ => (lift (g x y) ρ).bind (kX3 g' c y)
def kX1 (g g' : PV → PV → Option PV) (b c : EM PV) : PV → Ev → Out PV := fun x ρ => (b ρ).bind (kX2 g g' c x)
@[simp] theorem kX4_ (g' : PV → PV → Option PV) (y w : PV) (ρ : Ev) : kX4 g' y w ρ = lift (g' y w) ρ := (rfl)
@[simp] theorem kX5_ (g' : PV → PV → Option PV) (c : EM PV) (y : PV) (ρ : Ev) : kX5 g' c y ρ = (c ρ).bind (kX4 g' y) := (rfl)
@[simp] theorem kX3_ (g' : PV → PV → Option PV) (c : EM PV) (y : PV) (b : Bool) (ρ : Ev) : kX3 g' c y (.bl b) ρ = br b (kX5 g' c y) (cst (.bl false)) ρ := (rfl)
@[simp] theorem kX2_ (g g' : PV → PV → Option PV) (c : EM PV) (x y : PV) (ρ : Ev) : kX2 g g' c x y ρ = (lift (g x y) ρ).bind (kX3 g' c y) := (rfl)
@[simp] theorem kX1_ (g g' : PV → PV → Option PV) (b c : EM PV) (x : PV) (ρ : Ev) : kX1 g g' b c x ρ = (b ρ).bind (kX2 g g' c x) := (rfl)
@[simp] theorem ev_chn (g g' : PV → PV → Option PV) (a b c : EM PV) (ρ : Ev) : chn g g' a b c ρ = (a ρ).bind (kX1 g g' b c) := by
  unfold chn kX1 kX2
  congr 1
  funext x ρ
  congr 1
  funext y ρ
  congr 1
  funext z ρ
  cases z with
  | bl b => cases b <;> rfl
  | _ => rfl
end TR

set_option Elab.async false
set_option linter.all false
set_option maxRecDepth 100000
/-! TRW: own classes: fields, methods, new instances. -/
namespace TR
open PySem PySem.Spec L2
set_option autoImplicit false
def putFP (f : Str) (x : PV) : List (Str × PV) → List (Str × PV)
  | [] => [(f, x)]
  | (g, y) :: r => if g = f then (g, x) :: r else (g, y) :: putFP f x r
section
variable {D : Wd} {W : WX} {X : Cx} {e o : Expr} {es : List Expr} {pos p p2 apos : Pos} {m mo : EM PV} {ms : EM (List AV)} {G G' H H' : Hp}
theorem repf_len : ∀ {fs : List (Str × PV)} {ws : List (Str × V)}, RepF D G fs ws → ws.length = fs.length
  | [], _, h => by rw [show _ = [] from h]; rfl
  | (k, x) :: fs, _, h => by
    obtain ⟨v, r, rfl, h1, h2⟩ := h
    simp [repf_len h2]
theorem lookup_cons' {α : Type} (f g : Str) (x : α) (r : List (Str × α)) : ((g, x) :: r).lookup f = if g = f then some x else r.lookup f := by
  rw [List.lookup_cons]
  by_cases h : g = f
  · subst h; simp
  · have : (f == g) = false := by rw [beq_eq_false_iff_ne]; exact fun e => h e.symm
    rw [this, if_neg h]
theorem repf_some {f : Str} {x : PV} : ∀ {fs : List (Str × PV)} {ws : List (Str × V)}, RepF D G fs ws → fs.lookup f = some x → ∃ v, ws.lookup f = some v ∧ Rep D G x v
  | [], _, _, e => by cases e
  | (k, y) :: fs, _, h, e => by
    obtain ⟨v, r, rfl, h1, h2⟩ := h
    rw [lookup_cons'] at e ⊢
    by_cases q : k = f
    · rw [if_pos q] at e ⊢; cases e; exact ⟨v, rfl, h1⟩
    · rw [if_neg q] at e ⊢; exact repf_some h2 e
theorem repf_none {f : Str} : ∀ {fs : List (Str × PV)} {ws : List (Str × V)}, RepF D G fs ws → fs.lookup f = none → ws.lookup f = none
  | [], _, h, _ => by rw [show _ = [] from h]; rfl
  | (k, y) :: fs, _, h, e => by
    obtain ⟨v, r, rfl, h1, h2⟩ := h
    rw [lookup_cons'] at e ⊢
    by_cases q : k = f
    · rw [if_pos q] at e; cases e
    · rw [if_neg q] at e ⊢; exact repf_none h2 e
theorem repf_put {f : Str} {x : PV} {v : V} (r0 : Rep D G x v) : ∀ {fs : List (Str × PV)} {ws : List (Str × V)}, RepF D G fs ws → RepF D G (putFP f x fs) (putF f v ws)
  | [], _, h => by rw [show _ = [] from h]; exact ⟨v, [], rfl, r0, rfl⟩
  | (k, y) :: fs, _, h => by
    obtain ⟨u, r, rfl, h1, h2⟩ := h
    rw [putFP, putF]
    by_cases q : k = f
    · rw [if_pos q, if_pos q]; exact ⟨v, r, rfl, r0, h2⟩
    · rw [if_neg q, if_neg q]; exact ⟨u, _, rfl, h1, repf_put r0 h2⟩

/-! ### fields -/
/-- the classes of that number have no attribute of that name -/
structure CF (D : Wd) (f : Str) (c : Nat) : Prop where
  h : ∀ C, D.T c C → Cls D.K C ∧ NoAttr D.K C f
def CFs (D : Wd) (f : Str) (cs : List Nat) : Prop := ∀ c ∈ cs, CF D f c
theorem cfs_nil {f : Str} : CFs D f [] := fun c h => by cases h
theorem cfs_cons {f : Str} {c : Nat} {cs : List Nat} (h : CF D f c) (t : CFs D f cs) : CFs D f (c :: cs) := fun d hd => by
  rcases List.mem_cons.mp hd with rfl | hd
  · exact h
  · exact t d hd
def fldQ (cs : List Nat) (f : Str) : PV → Option PV
  | .obj c fs => if c ∈ cs then fs.lookup f else none
  | _ => none
def fldM (cs : List Nat) (f : Str) (m : EM PV) : EM PV := fun ρ => (m ρ).bind fun x ρ => lift (fldQ cs f x) ρ
theorem re_fld {cs : List Nat} {f : Str} (hK : D.K = X.K) (h : RP D W X e m) (hc : CFs D f cs) (hb : attributeBase e f X.env (eval e X.env) = eval e X.env := by rfl) : RE D W X (.Attribute e f pos) (fldM cs f m) :=
  (pe_fld h hb).imp fun σ H Q ⟨G, ρ, A, k⟩ => ⟨G, ρ, A, (Kg.bind k).mono fun x ρ1 G1 H1 n1 k1 v rv => by
    obtain ⟨y, e1, g⟩ := Kg.lift n1.abs k1
    unfold fldQ at e1
    split at e1
    · rename_i c fs
      split at e1
      · rename_i hm
        obtain ⟨a, C, dx, ws, rfl, ha, t, r⟩ := rv
        obtain ⟨u, h1, h2⟩ := repf_some r e1
        obtain ⟨c1, c2⟩ := (hc c hm).h C t
        exact ⟨a, C, dx, ws, u, rfl, ha, hK ▸ c1, hK ▸ c2, h1, g G1 H1 (Grow.refl n1.abs.le) u h2⟩
      · cases e1
    · cases e1⟩
def setFld (i : Nat) (cs : List Nat) (f : Str) (m : EM PV) : SM := fun ρ => (m ρ).to fun x ρ => (peek i ρ).to fun _ ρ => match ρ[i]? with
  | some (.own b (.obj c fs)) => if c ∈ cs ∧ fs.length < 1000 then .nxt (ρ.set i (.own b (.obj c (putFP f x fs)))) else .stuck
  | _ => .stuck
theorem s_fld {i : Nat} {cs : List Nat} {f : Str} {pos' : Pos} (hK : D.K = X.K) (ho : PE X o (tVar i)) (hc : CFs D f cs) (hv : RE D W X e m) (hs : swapsWith e (some (.Attribute o f pos')) pos.line X.env = pure false := by rfl) : RS D W X (.Assign [.Attribute o f pos'] e pos) (setFld i cs f m) :=
  (ps_fld ho hv hs).imp fun E σ H ⟨G, ρ, A, k⟩ => ⟨G, ρ, A, (Ks.to k).mono fun x ρ1 G1 H1 n1 k1 v rv => by
    obtain ⟨y, w, ew, rw', k2⟩ := peek_ok n1.abs (Ks.to k1)
    refine ⟨w, ew, ?_⟩
    split at k2
    · rename_i b c fs em
      split at k2
      · rename_i hm
        obtain ⟨ad, e1, g, C, dx, ws, ha, t, r⟩ := n1.abs.own em
        rw [ew] at e1; cases e1
        obtain ⟨c1, c2⟩ := (hc c hm.1).h C t
        exact ⟨ad, C, dx, ws, rfl, ha, hK ▸ c1, hK ▸ c2, by rw [repf_len r]; exact hm.2, k2 G1 _ σ (nx_upd n1.abs em ew ⟨C, dx, _, upd_same, t, repf_put rv r⟩)⟩
      · exact False.elim k2
    · exact False.elim k2⟩

/-! ### methods -/
/-- self, as an argument -/
def selfV (m : EM PV) : EM AV := fun ρ => (m ρ).bind fun x ρ => .ok (.v x) ρ
def selfN (i : Nat) : EM AV := fun ρ => (peek i ρ).bind fun _ ρ => .ok (.s i) ρ
def tSf (D : Wd) (W : WX) (m : EM AV) : TE := fun σ H Q => ∃ G ρ, Abs D G H σ ρ ∧ Kg D W (m ρ) G H σ ρ fun a ρ' G' H' => ∀ v, AVs D G' σ [a] [v] → Q v H'
abbrev RSf (D : Wd) (W : WX) (X : Cx) (e : Expr) (m : EM AV) : Prop := PE X e (tSf D W m)
theorem rs_v (h : RE D W X e m) : RSf D W X e (selfV m) := h.imp fun σ H Q ⟨G, ρ, A, k⟩ => ⟨G, ρ, A, (Kg.bind k).mono fun x ρ1 G1 H1 n1 k1 v rv => k1 G1 H1 (Nx.refl n1.abs) v ⟨v, [], rfl, rv, rfl⟩⟩
theorem rs_n (i : Nat) (h : PE X e (tVar i)) : RSf D W X e (selfN i) := h.imp fun σ H Q ⟨G, ρ, A, k⟩ => by
  obtain ⟨x, v, ev, r0, k0⟩ := peek_ok A (Kg.bind k)
  exact ⟨v, ev, k0 G H (Nx.refl A) v ⟨v, [], rfl, ev, rfl⟩⟩
def clsQ : PV → Option (Nat × List (Str × PV))
  | .obj c fs => some (c, fs)
  | _ => none
def clsOf (a : AV) (ρ : Ev) : Option (Nat × List (Str × PV)) := match a with
  | .v x => clsQ x
  | .s i => match ρ[i]? with
    | some s => s.peek.bind clsQ
    | none => none
def mthF (tbl : List (Nat × FM)) (nm : Str) (sf : EM AV) (ms : EM (List AV)) : EM Ret := fun ρ => (sf ρ).bind fun a ρ => match clsOf a ρ with
  | some (c, fs) => (match tbl.lookup c, fs.lookup nm with
    | some f, none => (ms ρ).bind fun as ρ => applyF f (a :: as) ρ
    | _, _ => .stuck)
  | none => .stuck
def mthE (tbl : List (Nat × FM)) (nm : Str) (sf : EM AV) (ms : EM (List AV)) : EM PV := fun ρ => (mthF tbl nm sf ms ρ).bind fun r ρ => .ok r.pv ρ
def mthO (tbl : List (Nat × FM)) (nm : Str) (sf : EM AV) (ms : EM (List AV)) : EM MO := fun ρ => (mthF tbl nm sf ms ρ).bind fun r ρ => match r with
  | .o m => .ok m ρ
  | .v _ => .stuck
/-- the method of that name of the class of that number keeps to its pure meaning -/
structure MtAt (P : Program) (w : World) (K : PySem.W.Frag) (mg : Str → Option Value) (base : Heap) (D : Wd) (k : Nat) (nm : Str) (c : Nat) (fm : FM) : Prop where
  h : ∀ C, D.T c C → ∃ (f : Addr) (fd : FuncData) (ps : List Str), Cls K C ∧ Meth K C nm f ∧ Binds K fd ps [] ∧ FnOk P w K mg base (L2.CX P w) k f fd ps (FSp D fm)
theorem MtAt.mono {P : Program} {w : World} {K : PySem.W.Frag} {mg : Str → Option Value} {base : Heap} {j k : Nat} {nm : Str} {c : Nat} {fm : FM} (h : MtAt P w K mg base D j nm c fm) (l : j ≤ k) : MtAt P w K mg base D k nm c fm :=
  ⟨fun C t => let ⟨f, fd, ps, a, b, d, F⟩ := h.h C t; ⟨f, fd, ps, a, b, d, F.mono l⟩⟩
def TblAt (P : Program) (w : World) (K : PySem.W.Frag) (mg : Str → Option Value) (base : Heap) (D : Wd) (k : Nat) (nm : Str) (tbl : List (Nat × FM)) : Prop := ∀ c fm, tbl.lookup c = some fm → MtAt P w K mg base D k nm c fm
theorem tbl_nil {P : Program} {w : World} {K : PySem.W.Frag} {mg : Str → Option Value} {base : Heap} {k : Nat} {nm : Str} : TblAt P w K mg base D k nm [] := fun c fm e => by cases e
theorem tbl_cons {P : Program} {w : World} {K : PySem.W.Frag} {mg : Str → Option Value} {base : Heap} {k : Nat} {nm : Str} {c : Nat} {fm : FM} {tbl : List (Nat × FM)} (h : MtAt P w K mg base D k nm c fm) (t : TblAt P w K mg base D k nm tbl) : TblAt P w K mg base D k nm ((c, fm) :: tbl) := fun d g e => by
  rw [List.lookup_cons] at e
  by_cases q : d = c
  · subst q
    simp at e
    subst e
    exact h
  · have : (d == c) = false := by rw [beq_eq_false_iff_ne]; exact q
    rw [this] at e
    exact t d g e
/-- what a method's call asks -/
def tMtA (X : Cx) (W : WX) (nm : Str) (ts : TE) (ta : TA) : TE := fun σ H Q => ts σ H fun x H1 => ∃ (a C dx : Addr) (fs : List (Str × V)) (k : Nat) (f : Addr) (fd : FuncData) (ps : List Str) (sp : Sp), x = .ref a ∧ H1 a = some (.ins C dx fs) ∧ fs.lookup nm = none ∧ Cls X.K C ∧ Meth X.K C nm f ∧ Binds X.K fd ps [] ∧
  FnOk X.prog X.w X.K X.mg X.base (L2.CX X.prog X.w) k f fd ps sp ∧ Room k X.A ∧ ta σ H1 fun vs H2 => sp (x :: vs) H2 Q (WE W σ)
theorem pe_mtA {nm : Str} {ts : TE} {ta : TA} {pl : Sem Bool} (tk : Takes X W) (ho : PE X o ts) (ha : PA X (e :: es) ta)
    (hst : starEach (e :: es) X.env = (false, eval e X.env) :: starEach es X.env := by rfl) (hpl : (backTo pos (starEach es X.env)).any (·.1) = false := by rfl)
    (ht : eval (.Call (.Attribute o nm apos) (e :: es) [] pos) X.env = (do let ov ← eval o X.env; standAt apos.atName; let (f, first) ← holding [ov] (getMethod ov nm pl); callWith pos f first (backTo pos (starEach (e :: es) X.env)) (backToKw pos (keywordEach [] X.env))) := by rfl) :
    PE X (.Call (.Attribute o nm apos) (e :: es) [] pos) (tMtA X W nm ts ta) := ⟨fun pins s σ H Q I h => by
  refine PySem.W.methodCall_KW (pl := pl) (thn (ho.run pins s σ H _ I h) fun u s1 hx => ?_) ht
  obtain ⟨x, H1, I1, rx, a, C, dx, fs, k, f, fd, ps, sp, rfl, ea, l, c, hm, hb, F, hr, q⟩ := hx
  cases rx
  refine getmeth_ok I1 ea c hm l (PySem.W.callWith_K (first := [.ref a]) (h₀ := X.base) I1.ok.mod.kin hm.kp (thn (ha.run pos pins s1 σ H1 _ I1 q) fun us s2 hy => ?_) hst hpl)
  obtain ⟨vs, H2, I2, r, q2⟩ := hy
  exact ⟨I2.kIn, run_fnSD (E := WE W) (us := .ref a :: us) (vs := .ref a :: vs) (dvs := []) (ds := []) F hr hb .nil (passAt tk σ) I2 (.cons rfl r) (by rw [List.append_nil]; exact q2)⟩⟩
theorem pe_mtA0 {nm : Str} {ts : TE} {pl : Sem Bool} (tk : Takes X W) (ho : PE X o ts)
    (ht : eval (.Call (.Attribute o nm apos) [] [] pos) X.env = (do let ov ← eval o X.env; standAt apos.atName; let (f, first) ← holding [ov] (getMethod ov nm pl); callWith pos f first (backTo pos (starEach [] X.env)) (backToKw pos (keywordEach [] X.env))) := by rfl) :
    PE X (.Call (.Attribute o nm apos) [] [] pos) (tMtA X W nm ts tNil) := ⟨fun pins s σ H Q I h => by
  refine PySem.W.methodCall_KW (pl := pl) (thn (ho.run pins s σ H _ I h) fun u s1 hx => ?_) ht
  obtain ⟨x, H1, I1, rx, a, C, dx, fs, k, f, fd, ps, sp, rfl, ea, l, c, hm, hb, F, hr, q⟩ := hx
  cases rx
  exact getmeth_ok I1 ea c hm l (PySem.W.callWith_K0 (first := [.ref a]) I1.kIn hm.kp (run_fnSD (E := WE W) (us := [.ref a]) (vs := [.ref a]) (dvs := []) (ds := []) F hr hb .nil (passAt tk σ) I1 (.cons rfl .nil) q))⟩
theorem mth_le {tbl : List (Nat × FM)} {nm : Str} {sf : EM AV} {k : Nat} (T : TblAt X.prog X.w X.K X.mg X.base D k nm tbl) (hr : Room k X.A) (σ : St) (H : Hp) (Q : VK) (G : Hp) (ρ : Ev) (A : Abs D G H σ ρ) {P : Ret → Ev → Hp → Hp → Prop} (h : Kg D W (mthF tbl nm sf ms ρ) G H σ ρ P)
    (q : ∀ (G1 H1 : Hp) (ρ1 : Ev), Abs D G1 H1 σ ρ1 → (∀ b, H1 b = none → H b = none) → ∀ r ρ' G' H' v, Nx D G1 H1 σ ρ1 G' H' σ ρ' → (∀ a, Ow σ ρ' a → Ow σ ρ1 a) → (∀ G' H', Nx D G1 H1 σ ρ1 G' H' σ ρ' → P r ρ' G' H') → RRep D G1 H1 G' H' r v → Q v H') :
    tMtA X W nm (tSf D W sf) (tA D W ms) σ H Q := by
  refine ⟨G, ρ, A, (Kg.bind h).mono fun a ρ1 G1 H1 n1 k1 v rv => ?_⟩
  split at k1
  · rename_i c fs ec
    split at k1
    · rename_i f et el
      -- the instance
      obtain ⟨ad, C, dx, ws, rfl, hi, t, rf⟩ : ∃ (ad C dx : Addr) (ws : List (Str × V)), v = .ref ad ∧ H1 ad = some (.ins C dx ws) ∧ D.T c C ∧ RepF D G1 fs ws := by
        cases a with
        | v x =>
          obtain ⟨w, r, e1, e2, _⟩ := rv
          cases e1
          unfold clsOf clsQ at ec
          simp only at ec
          split at ec
          · cases ec
            obtain ⟨ad, C, dx, ws, e3, e4, e5, e6⟩ := e2
            exact ⟨ad, C, dx, ws, e3, n1.abs.le _ _ e4, e5, e6⟩
          · cases ec
        | s i =>
          obtain ⟨w, r, e1, e2, _⟩ := rv
          cases e1
          unfold clsOf at ec
          simp only at ec
          split at ec
          · rename_i sl es
            cases hp : sl.peek with
            | none => rw [hp] at ec; cases ec
            | some x =>
              rw [hp] at ec
              unfold clsQ at ec
              simp only [Option.bind_some] at ec
              split at ec
              · cases ec
                obtain ⟨w', e3, e4⟩ := peek_rep n1.abs es hp
                rw [e2] at e3; cases e3
                exact e4
              · cases ec
          · cases ec
      obtain ⟨fa, fd, ps, h1, h2, h3, h4⟩ := (T c f et).h C t
      refine ⟨ad, C, dx, ws, k, fa, fd, ps, FSp D f, rfl, hi, repf_none rf el, h1, h2, h3, h4, hr, G1, ρ1, n1.abs, (Kg.bind k1).mono fun as ρ2 G2 H2 n2 k2 vs rs => ?_⟩
      have ra : AVs D G2 σ (a :: as) (.ref ad :: vs) := by
        cases a with
        | v x =>
          obtain ⟨w, r, e1, e2, _⟩ := rv
          cases e1
          exact ⟨_, vs, rfl, e2.mono n2.leg, rs⟩
        | s i =>
          obtain ⟨w, r, e1, e2, _⟩ := rv
          cases e1
          exact ⟨_, vs, rfl, e2, rs⟩
      exact call_sp n2.abs ra k2 (q G2 H2 ρ2 n2.abs fun b hb => n1.d b (n2.d b hb))
    · exact False.elim k1
  · exact False.elim k1
theorem mthE_le {tbl : List (Nat × FM)} {nm : Str} {sf : EM AV} {k : Nat} (T : TblAt X.prog X.w X.K X.mg X.base D k nm tbl) (hr : Room k X.A) (σ : St) (H : Hp) (Q : VK) (h : tE D W (mthE tbl nm sf ms) σ H Q) : tMtA X W nm (tSf D W sf) (tA D W ms) σ H Q := by
  obtain ⟨G, ρ, A, k⟩ := h
  refine mth_le T hr σ H Q G ρ A (Kg.map k) fun G1 H1 ρ1 A1 _ r ρ' G' H' v n2 w p rr => ?_
  cases r with
  | v x => exact p G' H' n2 v rr
  | o mo =>
    obtain ⟨a, rfl, ga, ha, rm⟩ := rr
    obtain ⟨G2, n3, r3⟩ := nx_freeze n2 ga ha rm (ret_free A1 ha w)
    exact p G2 H' n3 _ r3
theorem mthO_le {tbl : List (Nat × FM)} {nm : Str} {sf : EM AV} {k : Nat} (T : TblAt X.prog X.w X.K X.mg X.base D k nm tbl) (hr : Room k X.A) (σ : St) (H : Hp) (Q : VK) (h : tN D W (mthO tbl nm sf ms) σ H Q) : tMtA X W nm (tSf D W sf) (tA D W ms) σ H Q := by
  obtain ⟨G, ρ, A, k⟩ := h
  have k' : Kg D W (mthF tbl nm sf ms ρ) G H σ ρ fun r ρ' G' H' => match r with
    | .v _ => False
    | .o mo => ∀ a, G' a = none → H a = none → MRep D G' H' a mo → ¬ Ow σ ρ' a → Q (.ref a) H' := by
    unfold mthO at k
    cases hq : mthF tbl nm sf ms ρ with
    | stuck => rw [hq] at k; exact k
    | exc e ρ' => rw [hq] at k; exact k
    | ok r ρ' =>
      rw [hq] at k
      cases r with
      | v x => exact False.elim k
      | o mo => exact k
  refine mth_le T hr σ H Q G ρ A k' fun G1 H1 ρ1 A1 hd r ρ' G' H' v n2 w p rr => ?_
  cases r with
  | v x => exact False.elim (p G' H' n2)
  | o mo =>
    obtain ⟨a, rfl, ga, ha, rm⟩ := rr
    exact p G' H' n2 a ga (hd a ha) rm (ret_free A1 ha w)
section
variable {tbl : List (Nat × FM)} {nm : Str} {sf : EM AV} {k : Nat} {pl : Sem Bool}
theorem re_mth (T : TblAt X.prog X.w X.K X.mg X.base D k nm tbl) (hr : Room k X.A) (tk : Takes X W) (ho : RSf D W X o sf) (ha : RA D W X (e :: es) ms)
    (hst : starEach (e :: es) X.env = (false, eval e X.env) :: starEach es X.env := by rfl) (hpl : (backTo pos (starEach es X.env)).any (·.1) = false := by rfl)
    (ht : eval (.Call (.Attribute o nm apos) (e :: es) [] pos) X.env = (do let ov ← eval o X.env; standAt apos.atName; let (f, first) ← holding [ov] (getMethod ov nm pl); callWith pos f first (backTo pos (starEach (e :: es) X.env)) (backToKw pos (keywordEach [] X.env))) := by rfl) :
    RE D W X (.Call (.Attribute o nm apos) (e :: es) [] pos) (mthE tbl nm sf ms) := (pe_mtA tk ho ha hst hpl ht).imp (mthE_le T hr)
theorem rn_mth (T : TblAt X.prog X.w X.K X.mg X.base D k nm tbl) (hr : Room k X.A) (tk : Takes X W) (ho : RSf D W X o sf) (ha : RA D W X (e :: es) ms)
    (hst : starEach (e :: es) X.env = (false, eval e X.env) :: starEach es X.env := by rfl) (hpl : (backTo pos (starEach es X.env)).any (·.1) = false := by rfl)
    (ht : eval (.Call (.Attribute o nm apos) (e :: es) [] pos) X.env = (do let ov ← eval o X.env; standAt apos.atName; let (f, first) ← holding [ov] (getMethod ov nm pl); callWith pos f first (backTo pos (starEach (e :: es) X.env)) (backToKw pos (keywordEach [] X.env))) := by rfl) :
    RN D W X (.Call (.Attribute o nm apos) (e :: es) [] pos) (mthO tbl nm sf ms) := (pe_mtA tk ho ha hst hpl ht).imp (mthO_le T hr)
theorem tMt_nil {ts : TE} {σ : St} {H : Hp} {Q : VK} (h : tMtA X W nm ts (tA D W argNil) σ H Q) (hi : ∀ σ H P P', (∀ x H', P x H' → P' x H') → ts σ H P → ts σ H P') : tMtA X W nm ts tNil σ H Q :=
  hi σ H _ _ (fun x H' hx => by
    obtain ⟨a, C, dx, fs, k, f, fd, ps, sp, h1, h2, h3, h4, h5, h6, h7, h8, G, ρ, A, kk⟩ := hx
    exact ⟨a, C, dx, fs, k, f, fd, ps, sp, h1, h2, h3, h4, h5, h6, h7, h8, kk G H' (Nx.refl A) [] rfl⟩) h
theorem tSf_mono {σ : St} {H : Hp} {P P' : VK} (i : ∀ x H', P x H' → P' x H') (h : tSf D W sf σ H P) : tSf D W sf σ H P' := by
  obtain ⟨G, ρ, A, k⟩ := h
  exact ⟨G, ρ, A, k.mono fun a ρ' G' H' n f v r => i v H' (f v r)⟩
theorem re_mth0 (T : TblAt X.prog X.w X.K X.mg X.base D k nm tbl) (hr : Room k X.A) (tk : Takes X W) (ho : RSf D W X o sf)
    (ht : eval (.Call (.Attribute o nm apos) [] [] pos) X.env = (do let ov ← eval o X.env; standAt apos.atName; let (f, first) ← holding [ov] (getMethod ov nm pl); callWith pos f first (backTo pos (starEach [] X.env)) (backToKw pos (keywordEach [] X.env))) := by rfl) :
    RE D W X (.Call (.Attribute o nm apos) [] [] pos) (mthE tbl nm sf argNil) := (pe_mtA0 tk ho ht).imp fun σ H Q h => tMt_nil (mthE_le T hr σ H Q h) fun _ _ _ _ i h => tSf_mono i h
theorem rn_mth0 (T : TblAt X.prog X.w X.K X.mg X.base D k nm tbl) (hr : Room k X.A) (tk : Takes X W) (ho : RSf D W X o sf)
    (ht : eval (.Call (.Attribute o nm apos) [] [] pos) X.env = (do let ov ← eval o X.env; standAt apos.atName; let (f, first) ← holding [ov] (getMethod ov nm pl); callWith pos f first (backTo pos (starEach [] X.env)) (backToKw pos (keywordEach [] X.env))) := by rfl) :
    RN D W X (.Call (.Attribute o nm apos) [] [] pos) (mthO tbl nm sf argNil) := (pe_mtA0 tk ho ht).imp fun σ H Q h => tMt_nil (mthO_le T hr σ H Q h) fun _ _ _ _ i h => tSf_mono i h
end
end
end TR

set_option Elab.async false
set_option linter.all false
set_option maxRecDepth 100000
/-! TRX: new instances, isinstance of own classes, what stays open. -/
namespace TR
open PySem PySem.Spec L2
set_option autoImplicit false
section
variable {D : Wd} {W : WX} {X : Cx} {e o : Expr} {es : List Expr} {pos p p2 p3 : Pos} {m mo : EM PV} {ms : EM (List AV)} {G G1 G' H H1 H2 H' : Hp}

/-- a new instance and its dict -/
theorem nx_tail {vs : List V} {ss ss' : List Slot} {x dx : Addr} {o1 o2 : HO} {mo mo' : MO} (le : LeG G1 H1) (hx : H1 x = none) (hd : H1 dx = none) (ne : dx ≠ x) (A1 : Abs D G1 H1 (vs.map some) ss)
    (n : Nx D G1 (upd (upd H1 dx o1) x o2) (some (.ref x) :: vs.map some) (.own true mo :: ss) G' H' (some (.ref x) :: vs.map some) (.own true mo' :: ss')) : Nx D G1 H1 (vs.map some) ss G' H' (vs.map some) ss' := by
  have up : ∀ {a : Addr} {u : HO}, H1 a = some u → (upd (upd H1 dx o1) x o2) a = some u := fun {a u} h => by
    have h1 : a ≠ x := by rintro rfl; rw [hx] at h; cases h
    have h2 : a ≠ dx := by rintro rfl; rw [hd] at h; cases h
    rw [upd_ne h1, upd_ne h2]; exact h
  have dn : ∀ {a : Addr}, (upd (upd H1 dx o1) x o2) a = none → H1 a = none := fun {a} h => by
    by_cases h1 : a = x
    · rw [h1]; exact hx
    · by_cases h2 : a = dx
      · rw [h2]; exact hd
      · rw [upd_ne h1, upd_ne h2] at h; exact h
  refine ⟨⟨n.abs.le, by have := n.abs.len; simpa using this, fun i s h => n.abs.sl (i + 1) s (by simpa using h), fun i j b m1 b' m2 a h1 h2 h3 h4 => ?_⟩, n.g, fun a u h no => n.k a u (up h) fun w => ?_, fun a h => dn (n.d a h), fun a u h => ?_, fun a h => ?_, fun i m1 h => ?_, fun i m1 h => ?_⟩
  · have := n.abs.inj (i + 1) (j + 1) b m1 b' m2 a (by simpa using h1) (by simpa using h2) (by simpa using h3) (by simpa using h4)
    omega
  · obtain ⟨i, b, m1, h1, h2⟩ := w
    cases i with
    | zero =>
      simp at h2
      rw [h2, h] at hx
      cases hx
    | succ i => exact no ⟨i, b, m1, by simpa using h1, by simpa using h2⟩
  · rcases n.f a u h with z | z | ⟨i, m1, h1, h2⟩
    · exact .inl z
    · exact .inr (.inl (dn z))
    · cases i with
      | zero => simp at h1
      | succ i => exact .inr (.inr ⟨i, m1, by simpa using h1, by simpa using h2⟩)
  · obtain ⟨i, b, m1, h1, h2⟩ := h
    rcases n.w a ⟨i + 1, b, m1, by simpa using h1, by simpa using h2⟩ with ⟨j, b', m2, h3, h4⟩ | z
    · cases j with
      | zero =>
        simp at h4
        exact .inr (by rw [← h4]; exact hx)
      | succ j => exact .inl ⟨j, b', m2, by simpa using h3, by simpa using h4⟩
    · exact .inr (dn z)
  · obtain ⟨⟨m', h1⟩, _⟩ := n.br (i + 1) m1 (by simpa using h)
    exact ⟨⟨m', by simpa using h1⟩, rfl⟩
  · obtain ⟨m', h1⟩ := n.nb (i + 1) m1 (by simpa using h)
    exact ⟨m', by simpa using h1⟩
def mkR (c : Nat) (f : FM) (as : List AV) : EM MO := fun ρ => match mkArgs as ρ with
  | none => .stuck
  | some ss => if (owns as ρ).Nodup then (match f (.own true (.obj c []) :: ss) with
    | .ok (.v .non) (.own true mo :: ss') => .ok mo (putBack as ss' ρ)
    | _ => .stuck) else .stuck
def mkM (c : Nat) (f : FM) (ms : EM (List AV)) : EM MO := fun ρ => (ms ρ).bind fun as ρ => mkR c f as ρ
/-- the class of that name and number; its first method keeps to its pure meaning -/
structure MkAt (P : Program) (w : World) (K : PySem.W.Frag) (mg : Str → Option Value) (base : Heap) (D : Wd) (k c : Nat) (x : Str) (fm : FM) : Prop where
  ex : ∃ (C f : Addr) (fd : FuncData) (ps : List Str), mg x = some (.ref C) ∧ D.T c C ∧ Mk K C f ∧ Binds K fd ps [] ∧ FnOk P w K mg base (L2.CX P w) k f fd ps (FSp D fm)
/-- what making asks -/
def tMkA (C : Addr) (sp : Sp) (W : WX) (t : TA) : TE := fun σ H Q => t σ H fun vs H1 => ∀ x dx, H1 x = none → H1 dx = none → dx ≠ x →
  sp (.ref x :: vs) (upd (upd H1 dx (.own x)) x (.ins C dx [])) (fun v H2 => v = .non ∧ Q (.ref x) H2) (WE W σ)
theorem run_mkA {k : Nat} {C f : Addr} {fd : FuncData} {ps : List Str} {sp : Sp} {pins : List (Addr × Obj)} {σ : St} {s : Shared} {Q : VK} {us : List Value} {vs : List V} (M : Mk X.K C f) (F : FnOk X.prog X.w X.K X.mg X.base (L2.CX X.prog X.w) k f fd ps sp) (hr : Room (k + 1) X.A) (hb : Binds X.K fd ps []) (tk : Takes X W) (I : Inv X pins σ H s) (r : Vals vs us)
    (h : ∀ x dx, H x = none → H dx = none → dx ≠ x → sp (.ref x :: vs) (upd (upd H dx (.own x)) x (.ins C dx [])) (fun v H2 => v = .non ∧ Q (.ref x) H2) (WE W σ)) : wpAny (model X.prog X.w) X.A (call (.ref C) us) (EP X pins σ Q) X.xe s := by
  have q0 := h (s.heap.objs.size + 1) s.heap.objs.size (I.hok.fresh (Nat.le_succ _)) (I.hok.fresh (Nat.le_refl _)) (Nat.ne_of_lt (Nat.lt_succ_self _))
  have J := Inv.made (C := C) I
  have rr : Vals (V.ref (s.heap.objs.size + 1) :: vs) (Value.ref (s.heap.objs.size + 1) :: us) := .cons rfl r
  have ln : (Value.ref (s.heap.objs.size + 1) :: us ++ []).length = ps.length := by
    rw [List.append_nil, ← rr.length]
    exact F.len _ _ _ _ q0
  have bt := hb _ (Value.ref (s.heap.objs.size + 1) :: us) J.kIn ln
  rw [List.append_nil] at bt
  refine wpAny_call (make_map (f := f) I.kIn M.makes M.init (beq_iff_eq.mp M.fn) (codeAny_mono (F.run _ X.stack _ _ ⟨Value.ref (s.heap.objs.size + 1) :: us, []⟩ _ _ _ (WE W σ) (hr.make C us []) (J.env0.make C us []) bt rr q0) fun res s' hq => ?_))
  cases res with
  | error er => exact passAt tk σ pins _ _ er s' J hq
  | ok fl =>
    cases fl with
    | ret u =>
      obtain ⟨v, H', I3, rv, ev, q3⟩ := J.after hq
      cases ev
      exact ⟨rv, V.ref (s.heap.objs.size + 1), H', I3, rfl, q3⟩
    | _ => exact hq.elim
theorem mk_le {c : Nat} {fm : FM} {C : Addr} (t : D.T c C) (σ : St) (H : Hp) (Q : VK) (h : tN D W (mkM c fm ms) σ H Q) : tMkA C (FSp D fm) W (tA D W ms) σ H Q := by
  obtain ⟨G, ρ, A, k0⟩ := h
  refine ⟨G, ρ, A, ?_⟩
  unfold mkM at k0
  cases q : ms ρ with
  | stuck => rw [q] at k0; exact k0
  | exc ex ρ' => rw [q] at k0; exact k0
  | ok as ρ1 =>
    rw [q] at k0
    simp only [Out.bind_ok] at k0
    intro G1 H1 n1 vs rs x dx hx hd ne
    unfold mkR at k0
    split at k0
    · exact False.elim k0
    · rename_i ss es
      split at k0
      · rename_i nd
        have A1 := abs_args n1.abs rs es nd
        obtain ⟨gx, ox⟩ := free_of A1 hx
        obtain ⟨gd, od⟩ := free_of A1 hd
        have m1 : Nx D G1 H1 (vs.map some) ss G1 (upd H1 dx (.own x)) (vs.map some) ss := nx_new (Nx.refl A1) hd gd od
        have m2 : Nx D G1 H1 (vs.map some) ss G1 (upd (upd H1 dx (.own x)) x (.ins C dx [])) (vs.map some) ss := nx_new m1 hx gx ox
        have A2 : Abs D G1 (upd (upd H1 dx (.own x)) x (.ins C dx [])) ((V.ref x :: vs).map some) (.own true (.obj c []) :: ss) := by
          refine ⟨m2.abs.le, by have := m2.abs.len; simpa using this, fun i s h => ?_, fun i j b mo1 b' mo2 a h1 h2 h3 h4 => ?_⟩
          · cases i with
            | zero =>
              simp at h; subst h
              exact ⟨x, rfl, gx, C, dx, [], upd_same, t, rfl⟩
            | succ i => exact m2.abs.sl i s (by simpa using h)
          · have nx : ∀ {i : Nat} {b : Bool} {mo1 : MO}, ss[i]? = some (.own b mo1) → (vs.map some)[i]? = some (some (V.ref x)) → False := fun {i b mo1} u1 u2 => ox ⟨i, b, mo1, u1, u2⟩
            cases i with
            | zero =>
              cases j with
              | zero => rfl
              | succ j =>
                simp at h3
                subst h3
                exact (nx (i := j) (by simpa using h2) (by simpa using h4)).elim
            | succ i =>
              cases j with
              | zero =>
                simp at h4
                subst h4
                exact (nx (i := i) (by simpa using h1) (by simpa using h3)).elim
              | succ j => rw [m2.abs.inj i j b mo1 b' mo2 a (by simpa using h1) (by simpa using h2) (by simpa using h3) (by simpa using h4)]
        refine ⟨G1, .own true (.obj c []) :: ss, (mkArgs_get es).2.1, A2, ?_⟩
        split at k0
        · rename_i mo ss' hf
          rw [hf]
          intro G' H' v n rr
          have nt := nx_tail n1.abs.le hx hd ne A1 n
          have nc := nx_call n1.abs rs es nd nt
          obtain ⟨ad, e1, ga, rm⟩ := n.abs.own (i := 0) (b := true) (m := mo) rfl
          simp at e1
          subst e1
          refine ⟨rr, k0 G' H' (n1.trans nc) x ga (n1.d x hx) rm fun w => ?_⟩
          obtain ⟨⟨u, hu⟩, _⟩ := n1.abs.ow_some (putBack_ow as ss' ρ1 w)
          rw [hx] at hu; cases hu
        · exact False.elim k0
      · exact False.elim k0
theorem rn_mk {k c : Nat} {x : Str} {fm : FM} (F : MkAt X.prog X.w X.K X.mg X.base D k c x fm) (hr : Room (k + 1) X.A) (tk : Takes X W) (ha : RA D W X (e :: es) ms) (hg : Gl X x := by rfl) (hdb : (x == ("__debug__" : Str)) = false := by decide)
    (he : starEach (e :: es) X.env = (false, eval e X.env) :: starEach es X.env := by rfl) (hpl : (backTo pos (starEach es X.env)).any (·.1) = false := by rfl) : RN D W X (.Call (.Name x p) (e :: es) [] pos) (mkM c fm ms) := by
  obtain ⟨C, f, fd, ps, h1, h2, h3, h4, h5⟩ := F.ex
  refine PE.imp (t := tMkA C (FSp D fm) W (tA D W ms)) ⟨fun pins s σ H Q I h => ?_⟩ (mk_le h2)
  refine wpAny_Call_Name_kw (ld_glob I hg h1 (PySem.W.callWith_K (h₀ := X.base) I.ok.mod.kin h3.kp (thn (ha.run pos pins s σ H _ I h) fun us s1 hy => ?_) he hpl) hdb)
  obtain ⟨vs, H1, I1, r, q⟩ := hy
  exact ⟨I1.kIn, run_mkA h3 h5 hr h4 tk I1 r q⟩
theorem rn_mk0 {k c : Nat} {x : Str} {fm : FM} (F : MkAt X.prog X.w X.K X.mg X.base D k c x fm) (hr : Room (k + 1) X.A) (tk : Takes X W) (hg : Gl X x := by rfl) (hdb : (x == ("__debug__" : Str)) = false := by decide) : RN D W X (.Call (.Name x p) [] [] pos) (mkM c fm argNil) := by
  obtain ⟨C, f, fd, ps, h1, h2, h3, h4, h5⟩ := F.ex
  refine PE.imp (t := tMkA C (FSp D fm) W tNil) ⟨fun pins s σ H Q I h => ?_⟩ fun σ H Q h => ?_
  · exact wpAny_Call_Name_kw (ld_glob I hg h1 (PySem.W.callWith_K0 I.kIn h3.kp (run_mkA (us := []) h3 h5 hr h4 tk I .nil h)) hdb)
  · obtain ⟨G, ρ, A, k⟩ := mk_le h2 σ H Q h
    exact k G H (Nx.refl A) [] rfl

/-! ### isinstance of an own class -/
/-- which classes count: the flags, by number -/
def isCls (tab : List Nat) : PV → Bool
  | .obj c _ => decide (c ∈ tab)
  | _ => false
structure IsCl (D : Wd) (C : Addr) (tab : List Nat) : Prop where
  b : ∀ n : String, n ∈ ["NoneType", "bool", "int", "str", "list", "tuple", "dict"] → PySem.W.kitOne D.K (.type n) (.ref C) = some false
  o : ∀ c C', D.T c C' → PySem.W.kitOne D.K (.ref C') (.ref C) = some (decide (c ∈ tab))
theorem ty_cls (hT : IsAll D) {C : Addr} {tab : List Nat} (hC : IsCl D C tab) (le : LeG G H) {x : PV} {v : V} (r : RepH D G H x v) : ∃ t : Value, TyX D.K H v t ∧ PySem.W.kitOne D.K t (.ref C) = some (isCls tab x) := by
  cases x with
  | non => cases r; exact ⟨_, .base .non, hC.b _ (by decide)⟩
  | bl k => cases r; exact ⟨_, .base (.bl k), hC.b _ (by decide)⟩
  | int k => cases r; exact ⟨_, .base (.int k), hC.b _ (by decide)⟩
  | str k => cases r; exact ⟨_, .base (.str k), hC.b _ (by decide)⟩
  | lst xs =>
    obtain ⟨ad, vs, rfl, h, _⟩ := r
    exact ⟨_, tyx_lst (G := G) h, hC.b _ (by decide)⟩
  | tup xs =>
    obtain ⟨ad, vs, rfl, h, _⟩ := r
    exact ⟨_, tyx_tup (G := G) (sqT_mono le h), hC.b _ (by decide)⟩
  | dct xs =>
    obtain ⟨ad, vs, rfl, h, _⟩ := r
    refine ⟨.type "dict", ?_, hC.b _ (by decide)⟩
    rcases h with h | ⟨o, h⟩
    · exact .base (.dK h)
    · exact .fDict h
  | obj c fs =>
    obtain ⟨ad, C', dx, ws, rfl, h, t, _⟩ := r
    have F := hT c C' t
    exact ⟨.ref C', .base (.ins h F.cl F.ha F.hn F.htk F.hm), hC.o c C' t⟩
def isCM (m : EM PV) (tab : List Nat) : EM PV := fun ρ => (m ρ).bind fun x ρ => .ok (.bl (isCls tab x)) ρ
structure IsAt (D : Wd) (mg : Str → Option Value) (x : Str) (tab : List Nat) : Prop where
  ex : ∃ C, mg x = some (.ref C) ∧ IsCl D C tab
theorem re_isc (hT : IsAll D) {x : Str} {tab : List Nat} (hC : IsAt D X.mg x tab) (hK : D.K = X.K) (he : RP D W X e m) (hg : Gl X "isinstance") (hm : X.mg "isinstance" = none) (hg2 : Gl X x := by rfl)
    (hd2 : (x == ("__debug__" : Str)) = false := by decide)
    (hs : starEach [e, .Name x p3] X.env = (false, eval e X.env) :: starEach [.Name x p3] X.env := by rfl) (hs2 : starEach [.Name x p3] X.env = (false, eval (.Name x p3) X.env) :: starEach [] X.env := by rfl) (hpl : (backTo p2 (starEach [.Name x p3] X.env)).any (·.1) = false := by rfl) :
    RE D W X (.Call (.Name "isinstance" p) [e, .Name x p3] [] p2) (isCM m tab) := by
  obtain ⟨C, h1, h2⟩ := hC.ex
  exact (pe_callB call_isi hg hm PyProof.Rows.boot_isinstance (pa_cons he (pa_cons (pe_glob hg2 h1 (show RelV (.ref C) (.ref C) from rfl) hd2) pa_nil hs2) hs) (by decide) (by decide) hs hpl).imp fun σ H Q ⟨G, ρ, A, k⟩ =>
    ⟨G, ρ, A, (Kg.bind k).mono fun x ρ1 G1 H1 n1 k1 v rv => by
      obtain ⟨t, ty, f⟩ := ty_cls hT h2 n1.abs.le rv
      exact ⟨v, .ref C, t, .ref C, _, rfl, .own _, hK ▸ ty, hK ▸ f, k1 G1 H1 (Nx.refl n1.abs) _ rfl⟩⟩

/-! ### what stays open: nothing is said of it -/
def stkS : SM := fun _ => .stuck
theorem s_stk {st : Stmt} : RS D W X st stkS := ⟨fun pins s σ H E I ⟨G, ρ, A, k⟩ => False.elim k⟩
theorem re_stk : RE D W X e stk := ⟨fun pins s σ H Q I ⟨G, ρ, A, k⟩ => False.elim k⟩
@[simp] theorem stkS_ (ρ : Ev) : stkS ρ = .stuck := (rfl)
end
/-! evaluation -/
section
def kFl (cs : List Nat) (f : Str) : PV → Ev → Out PV := fun x ρ => lift (fldQ cs f x) ρ
@[simp] theorem kFl_ (cs : List Nat) (f : Str) (x : PV) (ρ : Ev) : kFl cs f x ρ = lift (fldQ cs f x) ρ := (rfl)
@[simp] theorem ev_fld (cs : List Nat) (f : Str) (m : EM PV) (ρ : Ev) : fldM cs f m ρ = (m ρ).bind (kFl cs f) := (rfl)
@[simp] theorem fldQ_obj (cs : List Nat) (f : Str) (c : Nat) (fs : List (Str × PV)) : fldQ cs f (.obj c fs) = if c ∈ cs then fs.lookup f else none := (rfl)
def sfk (i : Nat) (cs : List Nat) (f : Str) (x : PV) : Option Slot → Ev → SO
  | some (.own b (.obj c fs)), ρ => if c ∈ cs ∧ fs.length < 1000 then .nxt (ρ.set i (.own b (.obj c (putFP f x fs)))) else .stuck
  | _, _ => .stuck
@[simp] theorem sfk_ (i : Nat) (cs : List Nat) (f : Str) (x : PV) (b : Bool) (c : Nat) (fs : List (Str × PV)) (ρ : Ev) : sfk i cs f x (some (.own b (.obj c fs))) ρ = if c ∈ cs ∧ fs.length < 1000 then .nxt (ρ.set i (.own b (.obj c (putFP f x fs)))) else .stuck := (rfl)
def kSf2 (i : Nat) (cs : List Nat) (f : Str) (x : PV) : PV → SM := fun _ ρ => sfk i cs f x ρ[i]? ρ
def kSf1 (i : Nat) (cs : List Nat) (f : Str) : PV → SM := fun x ρ => (peek i ρ).to (kSf2 i cs f x)
@[simp] theorem kSf2_ (i : Nat) (cs : List Nat) (f : Str) (x y : PV) (ρ : Ev) : kSf2 i cs f x y ρ = sfk i cs f x ρ[i]? ρ := (rfl)
@[simp] theorem kSf1_ (i : Nat) (cs : List Nat) (f : Str) (x : PV) (ρ : Ev) : kSf1 i cs f x ρ = (peek i ρ).to (kSf2 i cs f x) := (rfl)
@[simp] theorem ev_setFld (i : Nat) (cs : List Nat) (f : Str) (m : EM PV) (ρ : Ev) : setFld i cs f m ρ = (m ρ).to (kSf1 i cs f) := by
  unfold setFld kSf1 kSf2
  congr 1
  funext x ρ
  congr 1
  funext _ ρ
  unfold sfk
  cases ρ[i]? with
  | none => rfl
  | some s =>
    cases s with
    | own b mo => cases mo <;> rfl
    | _ => rfl
def kSv : PV → Ev → Out AV := fun x ρ => .ok (.v x) ρ
@[simp] theorem kSv_ (x : PV) (ρ : Ev) : kSv x ρ = .ok (.v x) ρ := (rfl)
@[simp] theorem ev_selfV (m : EM PV) (ρ : Ev) : selfV m ρ = (m ρ).bind kSv := (rfl)
def kSn (i : Nat) : PV → Ev → Out AV := fun _ ρ => .ok (.s i) ρ
@[simp] theorem kSn_ (i : Nat) (x : PV) (ρ : Ev) : kSn i x ρ = .ok (.s i) ρ := (rfl)
@[simp] theorem ev_selfN (i : Nat) (ρ : Ev) : selfN i ρ = (peek i ρ).bind (kSn i) := (rfl)
@[simp] theorem cls_v (c : Nat) (fs : List (Str × PV)) (ρ : Ev) : clsOf (.v (.obj c fs)) ρ = some (c, fs) := (rfl)
def clsS : Option Slot → Option (Nat × List (Str × PV))
  | some s => s.peek.bind clsQ
  | none => none
@[simp] theorem clsS_val (c : Nat) (fs : List (Str × PV)) : clsS (some (.val (.obj c fs))) = some (c, fs) := (rfl)
@[simp] theorem clsS_own (b : Bool) (c : Nat) (fs : List (Str × PV)) : clsS (some (.own b (.obj c fs))) = some (c, fs) := (rfl)
@[simp] theorem cls_s (i : Nat) (ρ : Ev) : clsOf (.s i) ρ = clsS ρ[i]? := by
  show (match ρ[i]? with
    | some s => s.peek.bind clsQ
    | none => none) = clsS ρ[i]?
  cases ρ[i]? <;> rfl
def kMt2 (f : FM) (a : AV) : List AV → Ev → Out Ret := fun as ρ => apS f (a :: as) ρ (mkArgs (a :: as) ρ)
@[simp] theorem kMt2_ (f : FM) (a : AV) (as : List AV) (ρ : Ev) : kMt2 f a as ρ = apS f (a :: as) ρ (mkArgs (a :: as) ρ) := (rfl)
def mt3 (ms : EM (List AV)) (a : AV) : Option FM → Option PV → Ev → Out Ret
  | some f, none, ρ => (ms ρ).bind (kMt2 f a)
  | _, _, _ => .stuck
@[simp] theorem mt3_ (ms : EM (List AV)) (a : AV) (f : FM) (ρ : Ev) : mt3 ms a (some f) none ρ = (ms ρ).bind (kMt2 f a) := (rfl)
def mt2 (tbl : List (Nat × FM)) (nm : Str) (ms : EM (List AV)) (a : AV) : Option (Nat × List (Str × PV)) → Ev → Out Ret
  | some (c, fs), ρ => mt3 ms a (tbl.lookup c) (fs.lookup nm) ρ
  | none, _ => .stuck
@[simp] theorem mt2_ (tbl : List (Nat × FM)) (nm : Str) (ms : EM (List AV)) (a : AV) (c : Nat) (fs : List (Str × PV)) (ρ : Ev) : mt2 tbl nm ms a (some (c, fs)) ρ = mt3 ms a (tbl.lookup c) (fs.lookup nm) ρ := (rfl)
def kMt1 (tbl : List (Nat × FM)) (nm : Str) (ms : EM (List AV)) : AV → Ev → Out Ret := fun a ρ => mt2 tbl nm ms a (clsOf a ρ) ρ
@[simp] theorem kMt1_ (tbl : List (Nat × FM)) (nm : Str) (ms : EM (List AV)) (a : AV) (ρ : Ev) : kMt1 tbl nm ms a ρ = mt2 tbl nm ms a (clsOf a ρ) ρ := (rfl)
theorem ev_mthF (tbl : List (Nat × FM)) (nm : Str) (sf : EM AV) (ms : EM (List AV)) (ρ : Ev) : mthF tbl nm sf ms ρ = (sf ρ).bind (kMt1 tbl nm ms) := by
  unfold mthF kMt1
  congr 1
  funext a ρ
  unfold mt2
  cases clsOf a ρ with
  | none => rfl
  | some p =>
    obtain ⟨c, fs⟩ := p
    show (match tbl.lookup c, fs.lookup nm with
      | some f, none => (ms ρ).bind fun as ρ => applyF f (a :: as) ρ
      | _, _ => .stuck) = mt3 ms a (tbl.lookup c) (fs.lookup nm) ρ
    cases tbl.lookup c with
    | none => rfl
    | some f =>
      cases fs.lookup nm with
      | some y => rfl
      | none =>
        show (ms ρ).bind _ = (ms ρ).bind _
        congr 1
        funext as ρ
        exact ev_applyF f (a :: as) ρ
@[simp] theorem ev_mthE (tbl : List (Nat × FM)) (nm : Str) (sf : EM AV) (ms : EM (List AV)) (ρ : Ev) : mthE tbl nm sf ms ρ = ((sf ρ).bind (kMt1 tbl nm ms)).bind kPv := by
  unfold mthE
  rw [ev_mthF]
  rfl
@[simp] theorem ev_mthO (tbl : List (Nat × FM)) (nm : Str) (sf : EM AV) (ms : EM (List AV)) (ρ : Ev) : mthO tbl nm sf ms ρ = ((sf ρ).bind (kMt1 tbl nm ms)).bind rk := by
  unfold mthO
  rw [ev_mthF]
  cases (sf ρ).bind (kMt1 tbl nm ms) with
  | ok r ρ => cases r <;> rfl
  | _ => rfl
def mko (as : List AV) (ρ : Ev) : FOut → Out MO
  | .ok (.v .non) (.own true mo :: ss) => .ok mo (putBack as ss ρ)
  | _ => .stuck
@[simp] theorem mko_ (as : List AV) (ρ : Ev) (mo : MO) (ss : List Slot) : mko as ρ (.ok (.v .non) (.own true mo :: ss)) = .ok mo (putBack as ss ρ) := (rfl)
def mks (c : Nat) (f : FM) (as : List AV) (ρ : Ev) : Option (List Slot) → Out MO
  | some ss => if (owns as ρ).Nodup then mko as ρ (f (.own true (.obj c []) :: ss)) else .stuck
  | none => .stuck
@[simp] theorem mks_ (c : Nat) (f : FM) (as : List AV) (ρ : Ev) (ss : List Slot) : mks c f as ρ (some ss) = if (owns as ρ).Nodup then mko as ρ (f (.own true (.obj c []) :: ss)) else .stuck := (rfl)
def kMk (c : Nat) (f : FM) : List AV → Ev → Out MO := fun as ρ => mks c f as ρ (mkArgs as ρ)
@[simp] theorem kMk_ (c : Nat) (f : FM) (as : List AV) (ρ : Ev) : kMk c f as ρ = mks c f as ρ (mkArgs as ρ) := (rfl)
@[simp] theorem ev_mk (c : Nat) (f : FM) (ms : EM (List AV)) (ρ : Ev) : mkM c f ms ρ = (ms ρ).bind (kMk c f) := by
  unfold mkM kMk
  congr 1
  funext as ρ
  unfold mkR mks
  cases mkArgs as ρ with
  | none => rfl
  | some ss =>
    show (if _ then _ else _) = (if _ then _ else _)
    split
    · unfold mko
      rfl
    · rfl
def kIc (tab : List Nat) : PV → Ev → Out PV := fun x ρ => .ok (.bl (isCls tab x)) ρ
@[simp] theorem kIc_ (tab : List Nat) (x : PV) (ρ : Ev) : kIc tab x ρ = .ok (.bl (isCls tab x)) ρ := (rfl)
@[simp] theorem ev_isCM (m : EM PV) (tab : List Nat) (ρ : Ev) : isCM m tab ρ = (m ρ).bind (kIc tab) := (rfl)
end
end TR

set_option Elab.async false
set_option linter.all false
set_option maxRecDepth 100000
/-! TRY: more built-ins, x += e, defs of classes, defs that call themselves. -/
namespace TR
open PySem PySem.Spec L2
set_option autoImplicit false
section
variable {D : Wd} {W : WX} {X : Cx} {e o : Expr} {es : List Expr} {pos p p2 : Pos} {m : EM PV} {ms : EM (List AV)}
theorem rn_stk : RN D W X e (stk : EM MO) := ⟨fun pins s σ H Q I ⟨G, ρ, A, k⟩ => False.elim k⟩
/-! ### str, tuple -/
def bStr : List PV → Option PV
  | [.int i] => if i.natAbs.log2 < 1920 then some (.str (Str.ofString (toString i))) else none
  | [.str a] => some (.str a)
  | _ => none
def rStr : List V → Hp → VK → Prop := fun xs H Q => (∃ i, xs = [.int i] ∧ i.natAbs.log2 < 1920 ∧ Q (.str (toString i)) H) ∨ ∃ a, xs = [.str a] ∧ Q (.str a) H
theorem call_str : CallR X (.type "str") rStr := fun pins s σ H xs us Q I r h => by
  rcases h with h | h
  · exact call_str_int pins s σ H xs us Q I r h
  · exact SkE.call_str_str pins s σ H xs us Q I r h
theorem sn_str : SnC D rStr bStr := by
  intro G H xs z vs Q le r e q
  unfold bStr at e
  split at e
  · split at e
    · rename_i hz
      cases e
      obtain ⟨v, rfl, r1⟩ := one_h r
      cases r1
      exact .inl ⟨_, rfl, hz, q G H _ (Grow.refl le) rfl⟩
    · cases e
  · cases e
    obtain ⟨v, rfl, r1⟩ := one_h r
    cases r1
    exact .inr ⟨_, rfl, q G H _ (Grow.refl le) rfl⟩
  · cases e
def bTup : List PV → Option PV
  | [.lst xs] => some (.tup xs)
  | [.tup xs] => some (.tup xs)
  | _ => none
theorem sn_tup (hK : D.K = X.K) : SnC D (fun xs H Q => ∃ p ys, xs = [.ref p] ∧ ((SqL X.K H p ys ∧ ∀ l, H l = none → Q (.ref l) (upd H l (.tup ys))) ∨ (SqT X.K H p ys ∧ Q (.ref p) H))) bTup := by
  intro G H xs z vs Q le r e q
  unfold bTup at e
  split at e
  · cases e
    obtain ⟨v, rfl, ad, ws, rfl, s, rs⟩ := one_h r
    exact ⟨ad, ws, rfl, .inl ⟨hK ▸ s, fun l hl => q _ _ _ (Grow.new le hl) ⟨l, ws, rfl, .inl (.inl upd_same), rs.mono (Grow.new le hl).leg⟩⟩⟩
  · cases e
    obtain ⟨v, rfl, ad, ws, rfl, s, rs⟩ := one_h r
    exact ⟨ad, ws, rfl, .inr ⟨hK ▸ sqT_mono le s, q G H _ (Grow.refl le) ⟨ad, ws, rfl, s, rs⟩⟩⟩
  · cases e
section
variable (he : starEach (e :: es) X.env = (false, eval e X.env) :: starEach es X.env := by rfl) (hpl : (backTo p2 (starEach es X.env)).any (·.1) = false := by rfl)
include he hpl
theorem re_str1 (hg : Gl X "str") (hm : X.mg "str" = none) (ha : RA D W X (e :: es) ms) : RE D W X (.Call (.Name "str" p) (e :: es) [] p2) (callB bStr ms) :=
  re_callTy call_str sn_str hg hm PyProof.Rows.boot_str ha (by decide) (by decide) he hpl
theorem re_tup1 (hK : D.K = X.K) (hg : Gl X "tuple") (hm : X.mg "tuple" = none) (ha : RA D W X (e :: es) ms) : RE D W X (.Call (.Name "tuple" p) (e :: es) [] p2) (callB bTup ms) :=
  re_callTy call_tuple_of (sn_tup hK) hg hm PyProof.Rows.boot_tuple ha (by decide) (by decide) he hpl
end
/-! ### text.index -/
def sIndex (a : Str) : List PV → Option PV
  | [.str b] => (match Builtin.Str.occurrences a b 0 a.length 1 with
    | i :: _ => some (.int (i : Nat))
    | [] => none)
  | _ => none
theorem sn_index : SnS D (fun x xs H Q => ∃ a b i rest, x = .str a ∧ xs = [.str b] ∧ Builtin.Str.occurrences a b 0 a.length 1 = i :: rest ∧ Q (.int (i : Nat)) H) sIndex := by
  intro G H a xs z vs Q le r e q
  unfold sIndex at e
  split at e
  · split at e
    · rename_i i rest ho
      cases e
      obtain ⟨v, rfl, r1⟩ := one_h r
      cases r1
      exact ⟨a, _, i, rest, rfl, rfl, ho, q G H _ (Grow.refl le) rfl⟩
    · cases e
  · cases e
/-! ### x += e, of ints -/
def setAug (i : Nat) (g : Int → Int → Int) (m : EM PV) : SM := fun ρ => match ρ[i]? with
  | some (.val (.int a)) => (m ρ).to fun y ρ => (match y with
    | .int b => putV i (.int (g a b)) ρ
    | _ => .stuck)
  | _ => .stuck
theorem s_aug {i : Nat} {x : Str} {op : Operator} {g : Int → Int → Int} {pos' : Pos} (hg : PIp X op (ipI g)) (hN : X.N.Nodup) (hi : X.N[i]? = some x) (hx : Loc X.env.scope x) (he : RE D W X e m)
    (hf : X.fn x = true ∨ X.env.scope.names.lookup x = some .local := by first | exact .inl rfl | exact .inr rfl | assumption) : RS D W X (.AugAssign (.Name x pos') op e pos) (setAug i g m) :=
  (ps_aug hN hi hx he hg hf).imp fun E σ H ⟨G, ρ, A, k⟩ => by
    unfold setAug at k
    split at k
    · rename_i a ea
      obtain ⟨v, e1, r⟩ := A.val ea
      cases r
      refine ⟨_, e1, G, ρ, A, (Ks.to k).mono fun y ρ1 G1 H1 n1 k1 w rw' => ?_⟩
      cases y with
      | int b =>
        cases rw'
        simp only at k1
        refine ⟨a, b, rfl, rfl, ?_⟩
        unfold putV at k1
        split at k1
        · rename_i h
          exact k1 G1 H1 _ (abs_putV n1.abs (show Rep D G1 (.int (g a b)) (.int (g a b)) from rfl) (mayPut_no h))
        · exact False.elim k1
      | _ => exact False.elim k1
    · exact False.elim k
end

/-! ### defs -/
section
variable {P : Program} {w : World} {K : PySem.W.Frag} {mg : Str → Option Value} {base : Heap} {D : Wd}
def stF : FM := fun _ => .stuck
theorem fnok_stk {k : Nat} {f : Addr} {fd : FuncData} {ps : List Str} : FnOk P w K mg base (L2.CX P w) k f fd ps (FSp D stF) :=
  ⟨fun vs H Q E ⟨G, as, _, _, h⟩ => False.elim h, fun A outer s H args us vs Q E _ _ _ _ ⟨G, as, _, _, h⟩ => False.elim h⟩
theorem at_stk {k : Nat} {x : Str} {st : Stmt} {ps : List Str} (d : DefAt K mg x st ps) : FnAt P w K mg base D k x ps stF := by
  obtain ⟨f, fd, h1, h2, h3⟩ := d.ex
  obtain ⟨oc, od, kV, doc, pm, an, cdv, ct, osl, e, l, _⟩ := h2.ex
  exact ⟨f, fd, h1, h2.kp, h3, fnok_stk, oc, od, osl, l⟩
theorem FnAt.up {j k : Nat} {x : Str} {ps : List Str} {fm : FM} (h : FnAt P w K mg base D j x ps fm) (l : j ≤ k) : FnAt P w K mg base D k x ps fm := by
  obtain ⟨f, fd, h1, h2, h3, h4, h5⟩ := h.ex
  exact ⟨f, fd, h1, h2, h3, h4.mono l, h5⟩
/-- the method's text stands in the class of that number -/
structure DefMt (K : PySem.W.Frag) (D : Wd) (c : Nat) (nm qual : Str) (st : Stmt) (ps : List Str) : Prop where
  h : ∀ C, D.T c C → ∃ (f : Addr) (fd : FuncData), Cls K C ∧ Meth K C nm f ∧ Fun K nm qual st f fd ∧ Binds K fd ps []
structure DefMk (K : PySem.W.Frag) (mg : Str → Option Value) (D : Wd) (c : Nat) (x qual : Str) (st : Stmt) (ps : List Str) : Prop where
  ex : ∃ (C f : Addr) (fd : FuncData), mg x = some (.ref C) ∧ D.T c C ∧ Mk K C f ∧ Fun K "__init__" qual st f fd ∧ Binds K fd ps []
theorem mt_at {c : Nat} {nm qual : Str} {st : Stmt} {N ps : List Str} {k n : Nat} {body : SM} (d : DefMt K D c nm qual st ps) (S : FnScope N ps (defScope st)) (hn : ps.length = n) (hN : n ≤ N.length)
    (hb : ∀ {f : Addr} (cdv : Value) (A : Around) (outer : List Env) (s : Shared) (H : Hp) (E : XK), Room k (A.deeper (PyProof.Rows.envOfC qual (defScope st) s.heap.objs.size f cdv)) → Takes (cxB P w K mg base N qual (defScope st) f cdv A outer s H E) (fun c d _ H => E c d H) → RSs D (fun c d _ H => E c d H) (cxB P w K mg base N qual (defScope st) f cdv A outer s H E) (defBody st) body) :
    MtAt P w K mg base D (k + 1) nm c (fnB n N.length body) := ⟨fun C t => by
  obtain ⟨f, fd, h1, h2, h3, h4⟩ := d.h C t
  exact ⟨f, fd, ps, h1, h2, h4, fn_ok h3 S hn hN fun cdv A outer s H E hr => hb cdv A outer s H E hr (takes_of rfl rfl rfl rfl)⟩⟩
theorem mk_at {c : Nat} {x qual : Str} {st : Stmt} {N ps : List Str} {k n : Nat} {body : SM} (d : DefMk K mg D c x qual st ps) (S : FnScope N ps (defScope st)) (hn : ps.length = n) (hN : n ≤ N.length)
    (hb : ∀ {f : Addr} (cdv : Value) (A : Around) (outer : List Env) (s : Shared) (H : Hp) (E : XK), Room k (A.deeper (PyProof.Rows.envOfC qual (defScope st) s.heap.objs.size f cdv)) → Takes (cxB P w K mg base N qual (defScope st) f cdv A outer s H E) (fun c d _ H => E c d H) → RSs D (fun c d _ H => E c d H) (cxB P w K mg base N qual (defScope st) f cdv A outer s H E) (defBody st) body) :
    MkAt P w K mg base D (k + 1) c x (fnB n N.length body) := by
  obtain ⟨C, f, fd, h1, h2, h3, h4, h5⟩ := d.ex
  exact ⟨C, f, fd, ps, h1, h2, h3, h5, fn_ok h4 S hn hN fun cdv A outer s H E hr => hb cdv A outer s H E hr (takes_of rfl rfl rfl rfl)⟩
theorem mt_stk {k c : Nat} {nm qual : Str} {st : Stmt} {ps : List Str} (d : DefMt K D c nm qual st ps) : MtAt P w K mg base D k nm c stF := ⟨fun C t => by
  obtain ⟨f, fd, h1, h2, h3, h4⟩ := d.h C t
  exact ⟨f, fd, ps, h1, h2, h4, fnok_stk⟩⟩
/-- a class's number, by its name -/
theorem defMt_mk {h : Heap} {c : Nat} {cn nm qual : Str} {st : Stmt} {ps : List Str} {C f : Addr} {oc : Value} {od an : Option Addr} {osl : Array (Option Value)} {kV doc pm cdv ct : Value} (X : K.In h) (G : h.Ns mainGlobals mg) (hD : ∀ C, D.T c C → mg cn = some (.ref C))
    (a : PySem.W.nsIn K mainGlobals cn = some (some (.ref C))) (cl : Cls K C) (hm : PySem.W.findIn K (.ref C) nm = some (some (.ref f))) (l : K.lookup f = some ⟨oc, od, .func (PySem.W.fnOf nm qual (defArgs st) (defBody st) (defScope st) .none kV doc pm an cdv ct), osl⟩)
    (cd : PySem.W.codeIn K cdv qual = true) (hf : PySem.W.isFn K (.ref f) = true) (k : PySem.W.keepIn K (.ref f) = true)
    (hb : ∀ (kV doc pm : Value) (an : Option Addr) (cdv ct : Value) (us : List Value), us.length = ps.length → bindArgs (PySem.W.fnOf nm qual (defArgs st) (defBody st) (defScope st) .none kV doc pm an cdv ct) ⟨us, []⟩ = pure (ps.zip us)) : DefMt K D c nm qual st ps := ⟨fun C' t => by
  have e := (PySem.W.mg_of X G a).symm.trans (hD C' t)
  cases e
  have F : Fun K nm qual st f _ := fun_mk l cd k
  exact ⟨f, _, cl, ⟨hm, hf, k⟩, F, F.binds hb⟩⟩
theorem defMk_mk {h : Heap} {c : Nat} {cn qual : Str} {st : Stmt} {ps : List Str} {C f : Addr} {oc : Value} {od an : Option Addr} {osl : Array (Option Value)} {kV doc pm cdv ct : Value} (X : K.In h) (G : h.Ns mainGlobals mg) (hD : ∀ C, mg cn = some (.ref C) → D.T c C)
    (a : PySem.W.nsIn K mainGlobals cn = some (some (.ref C))) (mk : PySem.W.makesIn K C = true) (hm : PySem.W.findIn K (.ref C) "__init__" = some (some (.ref f))) (kC : PySem.W.keepIn K (.ref C) = true) (l : K.lookup f = some ⟨oc, od, .func (PySem.W.fnOf "__init__" qual (defArgs st) (defBody st) (defScope st) .none kV doc pm an cdv ct), osl⟩)
    (cd : PySem.W.codeIn K cdv qual = true) (hf : PySem.W.isFn K (.ref f) = true) (k : PySem.W.keepIn K (.ref f) = true)
    (hb : ∀ (kV doc pm : Value) (an : Option Addr) (cdv ct : Value) (us : List Value), us.length = ps.length → bindArgs (PySem.W.fnOf "__init__" qual (defArgs st) (defBody st) (defScope st) .none kV doc pm an cdv ct) ⟨us, []⟩ = pure (ps.zip us)) : DefMk K mg D c cn qual st ps := by
  have F : Fun K "__init__" qual st f _ := fun_mk l cd k
  exact ⟨C, f, _, PySem.W.mg_of X G a, hD C (PySem.W.mg_of X G a), ⟨mk, hm, hf, kC⟩, F, F.binds hb⟩
theorem cf_mk {h : Heap} {c : Nat} {cn f : Str} {C : Addr} (X : K.In h) (G : h.Ns mainGlobals mg) (hK : D.K = K) (hD : ∀ C, D.T c C → mg cn = some (.ref C)) (a : PySem.W.nsIn K mainGlobals cn = some (some (.ref C))) (cl : Cls K C) (n : PySem.W.findIn K (.ref C) f = some none) : CF D f c := ⟨fun C' t => by
  have e := (PySem.W.mg_of X G a).symm.trans (hD C' t)
  cases e
  exact hK ▸ ⟨cl, n⟩⟩
/-- a statement of a class's body -/
def inCls (st : Stmt) (j : Nat) : Stmt := match st with
  | .ClassDef _ _ _ body .. => body.getD j (.Pass ⟨0, 0, 0, 0⟩)
  | _ => .Pass ⟨0, 0, 0, 0⟩
end
/-! evaluation -/
@[simp] theorem str_str (a : Str) : bStr [.str a] = some (.str a) := (rfl)
@[simp] theorem str_int (i : Int) : bStr [.int i] = if i.natAbs.log2 < 1920 then some (.str (Str.ofString (toString i))) else none := (rfl)
@[simp] theorem tup_lst (xs : List PV) : bTup [.lst xs] = some (.tup xs) := (rfl)
@[simp] theorem tup_tup (xs : List PV) : bTup [.tup xs] = some (.tup xs) := (rfl)
def kAg (i : Nat) (g : Int → Int → Int) (a : Int) : PV → SM
  | .int b => putV i (.int (g a b))
  | _ => fun _ => .stuck
@[simp] theorem kAg_ (i : Nat) (g : Int → Int → Int) (a b : Int) (ρ : Ev) : kAg i g a (.int b) ρ = putV i (.int (g a b)) ρ := (rfl)
def ag (i : Nat) (g : Int → Int → Int) (m : EM PV) : Option Slot → Ev → SO
  | some (.val (.int a)), ρ => (m ρ).to (kAg i g a)
  | _, _ => .stuck
@[simp] theorem ag_ (i : Nat) (g : Int → Int → Int) (m : EM PV) (a : Int) (ρ : Ev) : ag i g m (some (.val (.int a))) ρ = (m ρ).to (kAg i g a) := (rfl)
@[simp] theorem ev_aug (i : Nat) (g : Int → Int → Int) (m : EM PV) (ρ : Ev) : setAug i g m ρ = ag i g m ρ[i]? ρ := by
  have k : ∀ (a : Int), ((m ρ).to fun y ρ => (match y with
    | .int b => putV i (.int (g a b)) ρ
    | _ => .stuck)) = (m ρ).to (kAg i g a) := fun a => by
    congr 1
    funext y ρ
    cases y <;> rfl
  unfold setAug ag
  cases ρ[i]? with
  | none => rfl
  | some s =>
    cases s with
    | val x =>
      cases x with
      | int a => exact k a
      | _ => rfl
    | _ => rfl
end TR

set_option Elab.async false
set_option linter.all false
set_option maxRecDepth 100000
/-! TRZ: the law's own call where the world of classes hangs on the module. -/
namespace TR
open PySem PySem.Spec L2
set_option autoImplicit false
section
variable {D : Wd} {W : WX} {X : Cx} {e : Expr}
theorem rb_stk : RB D W X e (stk : EM Bool) := ⟨fun pins s σ H Q I ⟨G, ρ, A, k⟩ => False.elim k⟩
end
def SpL (K : PySem.W.Frag) (fm : FM) : Sp := fun vs H Q _ => ∃ (a : Addr) (ns : List Int), vs = [.ref a] ∧ SqL K H a (ns.map V.int) ∧ (∃ r, fm [.val (.lst (ns.map .int))] = .ok (.v (.bl true)) r) ∧ ∀ H', Q (.bl true) H'
theorem spL_imp {K : PySem.W.Frag} {D : Wd} {fm : FM} (hK : D.K = K) {vs : List V} {H : Hp} {Q : VK} {E : XK} (h : SpL K fm vs H Q E) : FSp D fm vs H Q E := by
  obtain ⟨a, ns, rfl, hS, ⟨r, e⟩, hQ⟩ := h
  refine ⟨H, [.val (.lst (ns.map .int))], rfl, ⟨LeG.refl H, rfl, fun i s h => ?_, fun i j b m b' m' c h1 h2 h3 h4 => ?_⟩, ?_⟩
  · cases i with
    | zero =>
      cases h
      exact ⟨_, rfl, a, _, rfl, hK ▸ hS, reps_ints ns⟩
    | succ i => simp at h
  · cases i with
    | zero => cases h1
    | succ i => simp at h1
  · rw [e]
    intro G' H' v n rr
    cases rr
    exact hQ H'
theorem law_fn2 {P : Program} {w : World} {K : PySem.W.Frag} {mg : Str → Option Value} {fa : Addr} {D : Wd} {k : Nat} {x y : Str} {fm : FM} {st : Stmt} {oc : Value} {od an : Option Addr} {osl : Array (Option Value)} {kV doc pm cdv ct : Value} {h : Heap} (hK : D.K = K) (X : K.In h) (G : h.Ns mainGlobals mg) (hfa : mg x = some (.ref fa))
    {f : Addr} (a : PySem.W.nsIn K mainGlobals x = some (some (.ref f))) (l : K.lookup f = some ⟨oc, od, .func (PySem.W.fnOf x x (defArgs st) (defBody st) (defScope st) .none kV doc pm an cdv ct), osl⟩)
    (c : PySem.W.codeIn K cdv x = true) (kp : PySem.W.keepIn K (.ref f) = true)
    (hb : ∀ (s : Shared) (v : Value), BindsTo s (PySem.W.fnOf x x (defArgs st) (defBody st) (defScope st) .none kV doc pm an cdv ct) ⟨[v], []⟩ [(y, v)])
    (F : ∀ base : Heap, FnAt P w K mg base D k x [y] fm) :
    ∃ fd : FuncData, (∀ (s : Shared) (v : Value), BindsTo s fd ⟨[v], []⟩ [(y, v)]) ∧ ∀ base : Heap, K.In base → base.Ns mainGlobals mg → FnOk P w K mg base (L2.CX P w) k fa fd [y] (SpL K fm) := by
  obtain ⟨fd, h1, h2⟩ := law_fn X G hfa a l c kp hb F
  exact ⟨fd, h1, fun base X' G' => (h2 base X' G').imp fun vs H Q E z => spL_imp hK z⟩
end TR
namespace TR
theorem whM_f {c : EM Bool} {b : SM} {ρ ρ1 : Ev} (h : c ρ = .ok false ρ1) : whM c b ρ = .nxt ρ1 := by
  rw [whM_eqn, h]
  rfl
theorem whM_t {c : EM Bool} {b : SM} {ρ ρ1 ρ2 : Ev} (h : c ρ = .ok true ρ1) (hb : b ρ1 = .nxt ρ2) : whM c b ρ = whM c b ρ2 := by
  rw [whM_eqn, h]
  show loopK (whM c b) (b ρ1) = _
  rw [hb]
  rfl
end TR

set_option Elab.async false
set_option linter.all false
set_option maxRecDepth 100000
/-! TRZA: operators that an own class defines. -/
namespace TR
open PySem PySem.Spec L2
set_option autoImplicit false
section
open PySem.W PyProof.Rows
variable {prog : Program} {w : World} {A : Around} {E : Value → Shared → Prop} {s : Shared} {K : Frag} {x y C f : Addr} {ox oy : Obj} {od ody : Option Obj} {op : Operator}
theorem own_bin {Q : Value → Shared → Prop} (X : K.In s.heap) (I : InstAt s.heap x ox C od) (J : InstAt s.heap y oy C ody) (hc : selfFirst K C = true) (hs : findIn K (.ref C) (PySem.dunder op.info.2) = some (some (.ref f))) (hf : isFn K (.ref f) = true)
    (h : wpAny (model prog w) A (call (.ref f) [.ref x, .ref y]) (PySem.W.CmpBack Q) E s) : wpAny (model prog w) A (binaryOp op (.ref x) (.ref y)) Q E s := by
  obtain ⟨cd, rest, e1, e2⟩ := ksp_first hc
  have t := ksp_try X I hs hf h
  have L1 : Looks (model prog w) s.heap (fillsNumberSlot (.ref C) op.info.2) true := fills_K X e1 e2 hs
  rcases hi : op.info with ⟨sym, nm⟩
  rw [hi] at t L1
  dsimp only at t L1
  simp only [binaryOp, hi, binaryOp1]
  apply wpAny_holding
  apply wpAny_bind
  apply wpAny_bind
  apply I.type.here
  apply wpAny_bind
  apply J.type.here
  apply wpAny_bind
  apply L1.here
  simp only [beq_self_eq_true, if_true, Bool.and_false, Bool.false_and, Bool.false_eq_true, if_false]
  obtain ⟨hh, g, d, tt, os⟩ := s
  ksp_lk
  refine wpAny_mono t (fun r s' hr => ?_) fun _ _ e => e
  obtain ⟨v, rfl, q⟩ := hr
  ksp_lk
  exact q
end
section
variable {D : Wd} {W : WX} {X : Cx} {a b : Expr} {op : Operator} {pos : Pos} {ma mb : EM PV} {k c : Nat} {nm : Str} {fm : FM} {ta tb : TE}
/-- what an operator of an own class asks -/
def tDun (X : Cx) (W : WX) (nm : Str) (ta tb : TE) : TE := fun σ H Q => ta σ H fun x H1 => tb σ H1 fun y H2 => ∃ (a b C dx dy : Addr) (fs gs : List (Str × V)) (k : Nat) (f : Addr) (fd : FuncData) (ps : List Str) (sp : Sp), x = .ref a ∧ y = .ref b ∧ H2 a = some (.ins C dx fs) ∧ H2 b = some (.ins C dy gs) ∧
  PySem.W.selfFirst X.K C = true ∧ Meth X.K C nm f ∧ Binds X.K fd ps [] ∧ FnOk X.prog X.w X.K X.mg X.base (L2.CX X.prog X.w) k f fd ps sp ∧ Room k X.A ∧ sp [x, y] H2 Q (WE W σ)
theorem pe_dun (hn : PySem.dunder op.info.2 = nm) (tk : Takes X W) (ha : PE X a ta) (hb : PE X b tb) : PE X (.BinOp a op b pos) (tDun X W nm ta tb) := ⟨fun pins s σ H Q I h => by
  refine wpAny_BinOp (thn (ha.run pins s σ H _ I h) fun u s1 ⟨x, H1, I1, rx, h1⟩ => ?_)
  refine thn (hb.run pins s1 σ H1 _ I1 h1) fun v s2 ⟨y, H2, I2, ry, h2⟩ => ?_
  obtain ⟨p, q, C, dx, dy, fs, gs, k, f, fd, ps, sp, rfl, rfl, e1, e2, hc, hm, hb, F, hr, z⟩ := h2
  cases rx
  cases ry
  obtain ⟨_, O1, _⟩ := ins_get I2.hok e1
  obtain ⟨_, O2, _⟩ := ins_get I2.hok e2
  obtain ⟨_, J1, _⟩ := O1.look
  obtain ⟨_, J2, _⟩ := O2.look
  refine own_bin I2.kIn J1 J2 hc (hn ▸ hm.at_) hm.fn (wpAny_mono (run_fnSD (E := WE W) (us := [.ref p, .ref q]) (vs := [.ref p, .ref q]) (dvs := []) (ds := []) F hr hb .nil (passAt tk σ) I2 (.cons rfl (.cons rfl .nil)) z) (fun r s3 hq => ?_) fun _ _ e => e)
  obtain ⟨x, H3, I3, rr, q3⟩ := hq
  cases r <;> first | exact ⟨x, H3, I3, rr, q3⟩ | (cases x <;> first | (cases rr; done) | (obtain ⟨_, rr⟩ := rr; cases rr))⟩
/-- the class of that number stands first in its own order, and is the only one -/
structure DunAt (D : Wd) (c : Nat) : Prop where
  sf : ∀ C, D.T c C → PySem.W.selfFirst D.K C = true
  uq : ∀ C C', D.T c C → D.T c C' → C = C'
def argsD (c : Nat) (ma mb : EM PV) : EM (List AV) := fun ρ => (ma ρ).bind fun x ρ => (mb ρ).bind fun y ρ => match x, y with
  | .obj c1 fs, .obj c2 gs => if c1 = c ∧ c2 = c then .ok [.v (.obj c1 fs), .v (.obj c2 gs)] ρ else .stuck
  | _, _ => .stuck
def dunE (c : Nat) (fm : FM) (ma mb : EM PV) : EM PV := callE fm (argsD c ma mb)
theorem re_dun (hK : D.K = X.K) (u : DunAt D c) (T : MtAt X.prog X.w X.K X.mg X.base D k nm c fm) (hr : Room k X.A) (tk : Takes X W) (ha : RE D W X a ma) (hb : RE D W X b mb) (hn : PySem.dunder op.info.2 = nm := by rfl) : RE D W X (.BinOp a op b pos) (dunE c fm ma mb) :=
  (pe_dun hn tk ha hb).imp fun σ H Q ⟨G, ρ, A, k⟩ => by
    have k' := Kg.bind (Kg.bind (Kg.map k))
    refine ⟨G, ρ, A, k'.mono fun x ρ1 G1 H1 n1 k1 v rv => ⟨G1, ρ1, n1.abs, (Kg.bind k1).mono fun y ρ2 G2 H2 n2 k2 w rw' => ?_⟩⟩
    split at k2
    · rename_i c1 fs c2 gs
      split at k2
      · rename_i hc
        obtain ⟨rfl, rfl⟩ := hc
        obtain ⟨p, C, dx, ws, e1, e2, t1, r1⟩ := rv.mono n2.leg
        obtain ⟨q, C', dy, zs, e3, e4, t2, r2⟩ := rw'
        subst e1
        subst e3
        have := u.uq _ _ t1 t2
        subst this
        obtain ⟨f, fd, ps, h1, h2, h3, h4⟩ := T.h C t1
        refine ⟨p, q, C, dx, dy, ws, zs, _, f, fd, ps, FSp D fm, rfl, rfl, n2.abs.le _ _ e2, n2.abs.le _ _ e4, hK ▸ u.sf C t1, h2, h3, h4, hr, ?_⟩
        refine call_sp (as := [.v (.obj _ fs), .v (.obj _ gs)]) n2.abs ⟨_, _, rfl, ⟨p, C, dx, ws, rfl, e2, t1, r1⟩, _, _, rfl, ⟨q, C, dy, zs, rfl, e4, t2, r2⟩, rfl⟩ (k2 G2 H2 (Nx.refl n2.abs)) fun r ρ' G' H' v n3 w p3 rr => ?_
        cases r with
        | v x => exact p3 G' H' n3 v rr
        | o mo =>
          obtain ⟨a, rfl, ga, ha, rm⟩ := rr
          obtain ⟨G3, n4, r4⟩ := nx_freeze n3 ga ha rm (ret_free n2.abs ha w)
          exact p3 G3 H' n4 _ r4
      · exact False.elim k2
    · exact False.elim k2
/-- ~ of an own class -/
def tInv (X : Cx) (W : WX) (nm : Str) (ta : TE) : TE := fun σ H Q => ta σ H fun x H2 => ∃ (a C dx : Addr) (fs : List (Str × V)) (k : Nat) (f : Addr) (fd : FuncData) (ps : List Str) (sp : Sp), x = .ref a ∧ H2 a = some (.ins C dx fs) ∧
  Meth X.K C nm f ∧ Binds X.K fd ps [] ∧ FnOk X.prog X.w X.K X.mg X.base (L2.CX X.prog X.w) k f fd ps sp ∧ Room k X.A ∧ sp [x] H2 Q (WE W σ)
theorem own_inv {M : Model} {A : Around} {E : Value → Shared → Prop} {s : Shared} {K : PySem.W.Frag} {x C f : Addr} {ox : Obj} {od : Option Obj} {Q : Value → Shared → Prop} (X : K.In s.heap) (I : PySem.W.InstAt s.heap x ox C od) (hs : PySem.W.findIn K (.ref C) "__invert__" = some (some (.ref f))) (hf : PySem.W.isFn K (.ref f) = true)
    (h : wpAny M A (call (.ref f) [.ref x]) Q E s) : wpAny M A (unaryOp .Invert (.ref x)) Q E s := by
  simp only [unaryOp]
  apply wpAny_holding
  apply wpAny_bind
  exact PySem.W.special_fn X I hs (beq_iff_eq.mp hf) (wpAny_mono h (fun v s' z => wpAny_pure z) fun _ _ z => z)
theorem pe_inv (tk : Takes X W) (ha : PE X a ta) : PE X (.UnaryOp .Invert a pos) (tInv X W "__invert__" ta) := ⟨fun pins s σ H Q I h => by
  refine PyProof.Rows.UnaryOp_ (thn (ha.run pins s σ H _ I h) fun u s1 ⟨x, H1, I1, rx, h1⟩ => ?_)
  obtain ⟨p, C, dx, fs, k, f, fd, ps, sp, rfl, e1, hm, hb, F, hr, z⟩ := h1
  cases rx
  obtain ⟨_, O1, _⟩ := ins_get I1.hok e1
  obtain ⟨_, J1, _⟩ := O1.look
  exact own_inv I1.kIn J1 hm.at_ hm.fn (run_fnSD (E := WE W) (us := [.ref p]) (vs := [.ref p]) (dvs := []) (ds := []) F hr hb .nil (passAt tk σ) I1 (.cons rfl .nil) z)⟩
def argsI (c : Nat) (ma : EM PV) : EM (List AV) := fun ρ => (ma ρ).bind fun x ρ => match x with
  | .obj c1 fs => if c1 = c then .ok [.v (.obj c1 fs)] ρ else .stuck
  | _ => .stuck
def invE (c : Nat) (fm : FM) (ma : EM PV) : EM PV := callE fm (argsI c ma)
theorem re_inv (T : MtAt X.prog X.w X.K X.mg X.base D k "__invert__" c fm) (hr : Room k X.A) (tk : Takes X W) (ha : RE D W X a ma) : RE D W X (.UnaryOp .Invert a pos) (invE c fm ma) :=
  (pe_inv tk ha).imp fun σ H Q ⟨G, ρ, A, k⟩ => by
    have k' := Kg.bind (Kg.bind (Kg.map k))
    refine ⟨G, ρ, A, k'.mono fun x ρ2 G2 H2 n2 k2 v rv => ?_⟩
    split at k2
    · rename_i c1 fs
      split at k2
      · rename_i hc
        subst hc
        obtain ⟨p, C, dx, ws, e1, e2, t1, r1⟩ := rv
        subst e1
        obtain ⟨f, fd, ps, h1, h2, h3, h4⟩ := T.h C t1
        refine ⟨p, C, dx, ws, _, f, fd, ps, FSp D fm, rfl, n2.abs.le _ _ e2, h2, h3, h4, hr, ?_⟩
        refine call_sp (as := [.v (.obj _ fs)]) n2.abs ⟨_, _, rfl, ⟨p, C, dx, ws, rfl, e2, t1, r1⟩, rfl⟩ (k2 G2 H2 (Nx.refl n2.abs)) fun r ρ' G' H' v n3 w p3 rr => ?_
        cases r with
        | v x => exact p3 G' H' n3 v rr
        | o mo =>
          obtain ⟨a, rfl, ga, ha, rm⟩ := rr
          obtain ⟨G3, n4, r4⟩ := nx_freeze n3 ga ha rm (ret_free n2.abs ha w)
          exact p3 G3 H' n4 _ r4
      · exact False.elim k2
    · exact False.elim k2
end
/-! evaluation -/
def kD2 (c : Nat) : PV → PV → Ev → Out (List AV)
  | .obj c1 fs, .obj c2 gs, ρ => if c1 = c ∧ c2 = c then .ok [.v (.obj c1 fs), .v (.obj c2 gs)] ρ else .stuck
  | _, _, _ => .stuck
@[simp] theorem kD2_ (c c1 c2 : Nat) (fs gs : List (Str × PV)) (ρ : Ev) : kD2 c (.obj c1 fs) (.obj c2 gs) ρ = if c1 = c ∧ c2 = c then .ok [.v (.obj c1 fs), .v (.obj c2 gs)] ρ else .stuck := (rfl)
def kD1 (c : Nat) (mb : EM PV) : PV → Ev → Out (List AV) := fun x ρ => (mb ρ).bind (kD2 c x)
@[simp] theorem kD1_ (c : Nat) (mb : EM PV) (x : PV) (ρ : Ev) : kD1 c mb x ρ = (mb ρ).bind (kD2 c x) := (rfl)
@[simp] theorem ev_argsD (c : Nat) (ma mb : EM PV) (ρ : Ev) : argsD c ma mb ρ = (ma ρ).bind (kD1 c mb) := by
  unfold argsD
  congr 1
  funext x ρ
  unfold kD1
  congr 1
  funext y ρ
  cases x <;> first | rfl | (cases y <;> rfl)
@[simp] theorem ev_dun (c : Nat) (fm : FM) (ma mb : EM PV) (ρ : Ev) : dunE c fm ma mb ρ = callE fm (argsD c ma mb) ρ := (rfl)
def kJ1 (c : Nat) : PV → Ev → Out (List AV)
  | .obj c1 fs, ρ => if c1 = c then .ok [.v (.obj c1 fs)] ρ else .stuck
  | _, _ => .stuck
@[simp] theorem kJ1_ (c c1 : Nat) (fs : List (Str × PV)) (ρ : Ev) : kJ1 c (.obj c1 fs) ρ = if c1 = c then .ok [.v (.obj c1 fs)] ρ else .stuck := (rfl)
@[simp] theorem ev_argsI (c : Nat) (ma : EM PV) (ρ : Ev) : argsI c ma ρ = (ma ρ).bind (kJ1 c) := by
  unfold argsI
  congr 1
  funext x ρ
  cases x <;> rfl
@[simp] theorem ev_inv (c : Nat) (fm : FM) (ma : EM PV) (ρ : Ev) : invE c fm ma ρ = callE fm (argsI c ma) ρ := (rfl)
end TR

set_option Elab.async false
set_option linter.all false
set_option maxRecDepth 100000
/-! TRZB: list comprehensions of two walks. -/
namespace TR
open PySem PySem.Spec L2
set_option autoImplicit false
/-- the heap without one object -/
def del (H : Hp) (a : Addr) : Hp := fun b => if b = a then none else H b
theorem del_self (H : Hp) (a : Addr) : del H a a = none := if_pos rfl
theorem del_ne (H : Hp) {a b : Addr} (h : b ≠ a) : del H a b = H b := if_neg h
theorem upd_del {H : Hp} {a : Addr} {o : HO} (h : H a = some o) : upd (del H a) a o = H := by
  funext b
  by_cases e : b = a
  · subst e
    rw [upd_same, h]
  · rw [upd_ne e, del_ne H e]
section
variable {D : Wd} {G H G1 H1 : Hp} {σ σ2 : St} {ρ ρ1 : Ev} {a : Addr} {o : HO}
theorem abs_del (A : Abs D G H σ ρ) (ga : G a = none) (no : ¬ Ow σ ρ a) : Abs D G (del H a) σ ρ := by
  refine ⟨fun b u h => ?_, A.len, fun i s h => ?_, A.inj⟩
  · have hb : b ≠ a := by rintro rfl; rw [ga] at h; cases h
    exact (del_ne H hb).trans (A.le b u h)
  · have q := A.sl i s h
    cases s with
    | non => trivial
    | val x => exact q
    | exn x => exact q
    | own b m =>
      obtain ⟨c, e, g, r⟩ := q
      refine ⟨c, e, g, r.mono (LeG.refl _) (del_ne H ?_)⟩
      rintro rfl
      exact no ⟨i, b, m, h, e⟩
theorem nx_del (n : Nx D G H σ ρ G1 H1 σ2 ρ1) (ha : H a = none) (ga : G1 a = none) (no : ¬ Ow σ2 ρ1 a) : Nx D G H σ ρ G1 (del H1 a) σ2 ρ1 := by
  refine ⟨abs_del n.abs ga no, n.g, fun b u h no' => ?_, fun b h => ?_, n.f, n.w, n.br, n.nb⟩
  · have hb : b ≠ a := by rintro rfl; rw [ha] at h; cases h
    exact (del_ne H1 hb).trans (n.k b u h no')
  · by_cases hb : b = a
    · rw [hb]; exact ha
    · rw [del_ne H1 hb] at h; exact n.d b h
theorem nx_add (A : Abs D G H σ ρ) (h : H a = some o) (ga : G a = none) (no : ¬ Ow σ ρ a) : Nx D G (del H a) σ ρ G H σ ρ := by
  have := nx_new (o := o) (Nx.refl (abs_del A ga no)) (del_self H a) ga no
  rwa [upd_del h] at this
/-- an object that is neither frozen nor own stays so, and as it is -/
theorem nx_stays (n : Nx D G H σ ρ G1 H1 σ2 ρ1) (h : H a = some o) (ga : G a = none) (no : ¬ Ow σ ρ a) : H1 a = some o ∧ G1 a = none ∧ ¬ Ow σ2 ρ1 a := by
  refine ⟨n.k a o h no, ?_, fun w => ?_⟩
  · cases q : G1 a with
    | none => rfl
    | some u =>
      rcases n.f a u q with z | z | z
      · rw [ga] at z; cases z
      · rw [h] at z; cases z
      · exact absurd z.ow no
  · rcases n.w a w with z | z
    · exact no z
    · rw [h] at z; cases z
end
/-- the loop of a comprehension, by its body -/
def cL (vs : List Nat) (tg : Tg) (bod : List PV → EM (List PV)) : List PV → List PV → EM (List PV)
  | [], acc => fun ρ => .ok acc ρ
  | x :: xs, acc => fun ρ => match tg x (wipeE ρ vs) with
    | some ρ1 => (bod acc ρ1).bind fun acc2 ρ2 => cL vs tg bod xs acc2 (restE ρ vs ρ2)
    | none => .stuck
def bod1 (t : EM Bool) (e : EM PV) : List PV → EM (List PV) := fun acc ρ => (noX (t ρ)).bind fun b ρ => match b with
  | true => (noX (e ρ)).bind fun y ρ => if acc.length < sizeLine then .ok (acc ++ [y]) ρ else .stuck
  | false => .ok acc ρ
def bod2 (t : EM Bool) (vs1 : List Nat) (mi1 : EM (List PV)) (tg1 : Tg) (t1 : EM Bool) (e : EM PV) : List PV → EM (List PV) := fun acc ρ => (noX (t ρ)).bind fun b ρ => match b with
  | true => (noX (mi1 ρ)).bind fun ys ρ => if saveOk ρ vs1 then cL vs1 tg1 (bod1 t1 e) ys acc ρ else .stuck
  | false => .ok acc ρ
/-- the body keeps to its pure meaning; Da is the list that grows -/
structure BdOk (D : Wd) (bod : List PV → EM (List PV)) (MB : St → Hp → (Hp → Prop) → Addr → Prop) : Prop where
  h : ∀ {Gb Hb G H : Hp} {σb σ : St} {ρb ρ ρ' : Ev} {Da : Addr} {acc acc' : List PV} {ws : List V} {Nxt : Hp → Prop}, Hb Da = none → Nx D Gb Hb σb ρb G H σ ρ → G Da = none → ¬ Ow σ ρ Da → H Da = some (.lst ws) → Reps D G acc ws → bod acc ρ = .ok acc' ρ' →
    (∀ G8 H8 ws', Nx D Gb Hb σb ρb G8 H8 σ ρ' → G8 Da = none → ¬ Ow σ ρ' Da → H8 Da = some (.lst ws') → Reps D G8 acc' ws' → Nxt H8) → MB σ H Nxt Da
/-- what the machine asks of a loop -/
def Lp (J : It) (g : TG) (vs : List Nat) (σ : St) (H0 : Hp) (Fin : Hp → Prop) (MB : St → Hp → (Hp → Prop) → Addr → Prop) (Da : Addr) : Prop := ∃ W : Nat → Nat → Hp → Prop, (∃ m, W 0 m H0) ∧ ∀ i m H, W i m H →
  (J.stop i H ∧ Fin H) ∨ (J.go i H ∧ ∃ Nxt : Hp → Prop, (∀ H', Nxt H' → ∃ m', m' < m ∧ W (i + 1) m' H') ∧ ∀ x H', J.yld i H x H' → g x (wipe σ vs) H' fun σ2 H2 => wipe σ2 vs = wipe σ vs ∧ MB σ2 H2 Nxt Da)
section
variable {D : Wd} {g : TG} {tg : Tg} {bod : List PV → EM (List PV)} {MB : St → Hp → (Hp → Prop) → Addr → Prop}
theorem out_ok {α β : Type} {o : Out α} {k : α → Ev → Out β} {y : β} {ρ : Ev} (h : o.bind k = .ok y ρ) : ∃ x ρ1, o = .ok x ρ1 ∧ k x ρ1 = .ok y ρ := by
  cases o with
  | ok x ρ1 => exact ⟨x, ρ1, rfl, h⟩
  | exc e ρ1 => cases h
  | stuck => cases h
theorem noX_ok {α : Type} {o : Out α} {x : α} {ρ : Ev} (h : noX o = .ok x ρ) : o = .ok x ρ := by
  cases o with
  | ok y ρ1 => exact h
  | exc e ρ1 => cases h
  | stuck => cases h
theorem loop_ok (bk : BdOk D bod MB) {vs : List Nat} (tk : TgX D g tg vs) {σ : St} {G1 H1 Gs Hs : Hp} {σ1 : St} {ρ1 ρs ρF : Ev} {xs accS accF : List PV} {J : It} {Da : Addr} {wsS : List V} {Fin : Hp → Prop} (jok : JOk D Gs J xs) (hDa : H1 Da = none)
    (sv : saveOk ρs vs = true) (n0 : Nx D G1 H1 σ1 ρ1 Gs Hs σ ρs) (g0 : Gs Da = none) (o0 : ¬ Ow σ ρs Da) (d0 : Hs Da = some (.lst wsS)) (r0 : Reps D Gs accS wsS) (hz : cL vs tg bod xs accS ρs = .ok accF ρF)
    (fin : ∀ G2 H2 ws, Nx D G1 H1 σ1 ρ1 G2 H2 σ ρF → G2 Da = none → ¬ Ow σ ρF Da → H2 Da = some (.lst ws) → Reps D G2 accF ws → Fin H2) : Lp J g vs σ Hs Fin MB Da := by
  refine ⟨fun i me H => me = xs.length - i ∧ i ≤ xs.length ∧ ∃ G2 ρ2 acc ws, Nx D G1 H1 σ1 ρ1 G2 H σ ρ2 ∧ (∀ a u, Gs a = some u → G2 a = some u) ∧ saveOk ρ2 vs = true ∧ G2 Da = none ∧ ¬ Ow σ ρ2 Da ∧ H Da = some (.lst ws) ∧ Reps D G2 acc ws ∧ cL vs tg bod (xs.drop i) acc ρ2 = .ok accF ρF,
    ⟨_, rfl, Nat.zero_le _, Gs, ρs, accS, wsS, n0, fun _ _ h => h, sv, g0, o0, d0, r0, hz⟩, ?_⟩
  rintro i me H ⟨rfl, hi, G2, ρ2, acc, ws, n2, gg2, sv2, gD2, oD2, hD2, rs2, e2⟩
  by_cases hlt : i < xs.length
  · obtain ⟨go, yl⟩ := (jok G2 H gg2 n2.abs.le i).1 hlt
    refine .inr ⟨go, fun H => i + 1 ≤ xs.length ∧ ∃ G2 ρ2 acc ws, Nx D G1 H1 σ1 ρ1 G2 H σ ρ2 ∧ (∀ a u, Gs a = some u → G2 a = some u) ∧ saveOk ρ2 vs = true ∧ G2 Da = none ∧ ¬ Ow σ ρ2 Da ∧ H Da = some (.lst ws) ∧ Reps D G2 acc ws ∧ cL vs tg bod (xs.drop (i + 1)) acc ρ2 = .ok accF ρF,
      fun H' h' => ⟨xs.length - (i + 1), by omega, rfl, h'⟩, fun v H' y => ?_⟩
    obtain ⟨G3, x, ex, gr, rx⟩ := yl v H' y
    have nn := n2.abs.grow gr
    have n3 := n2.trans nn
    obtain ⟨hD3, gD3, oD3⟩ := nx_stays nn hD2 gD2 oD2
    have hx : xs[i] = x := by
      have ee := List.getElem?_eq_getElem hlt
      rw [ex] at ee
      exact (Option.some.inj ee).symm
    rw [List.drop_eq_getElem_cons hlt, hx] at e2
    have e3 : (match tg x (wipeE ρ2 vs) with
      | some ρ1 => (bod acc ρ1).bind fun acc2 ρ4 => cL vs tg bod (xs.drop (i + 1)) acc2 (restE ρ2 vs ρ4)
      | none => .stuck) = .ok accF ρF := e2
    cases q : tg x (wipeE ρ2 vs) with
    | none => rw [q] at e3; cases e3
    | some ρ5 =>
      rw [q] at e3
      obtain ⟨acc2, ρ8, eb, e4⟩ := out_ok (show (bod acc ρ5).bind (fun acc2 ρ4 => cL vs tg bod (xs.drop (i + 1)) acc2 (restE ρ2 vs ρ4)) = .ok accF ρF from e3)
      have Aw : Abs D G3 H' (wipe σ vs) (wipeE ρ2 vs) := abs_wipe n3.abs
      have oW : ¬ Ow (wipe σ vs) (wipeE ρ2 vs) Da := fun ⟨j, b, m, h, f⟩ => by
        by_cases hj : j ∈ vs
        · cases wipeE_in hj h
        · rw [wipeE_out hj] at h
          rw [wipe_out hj] at f
          exact oD3 ⟨j, b, m, h, f⟩
      refine tk G3 H' (wipe σ vs) (wipeE ρ2 vs) x v ρ5 _ Aw rx q fun σ6 l6 s6 n6 => ?_
      have l6' : σ6.length = σ.length := by rw [l6, wipe_length]
      have s6' : ∀ j, j ∉ vs → σ6[j]? = σ[j]? := fun j hj => (s6 j hj).trans (wipe_out hj)
      obtain ⟨_, _, oD6⟩ := nx_stays n6 hD3 gD3 oW
      refine ⟨wipe_same l6' s6', bk.h (del_self H' Da) ((nx_add Aw hD3 gD3 oW).trans n6) gD3 oD6 hD3 (rs2.mono nn.leg) eb fun G8 H8 ws8 n8 gD8 oD8 hD8 rs8 => ⟨hlt, G8, _, acc2, ws8, ?_, fun a u h => n8.g a u (nn.g a u (gg2 a u h)), ?_, gD8, ?_, hD8, rs8, e4⟩⟩
      · exact (nx_del n3 hDa gD3 oD3).trans (nx_blk (abs_del n3.abs gD3 oD3) sv2 n8 l6' s6')
      · have ln : (restE ρ2 vs ρ8).length = ρ2.length := by rw [restE_len, ← n8.abs.len, l6', n2.abs.len]
        unfold saveOk
        rw [List.all_eq_true]
        intro j hj
        cases ej : (restE ρ2 vs ρ8)[j]? with
        | none => rfl
        | some s =>
          have q2 := restE_in hj ej
          have hjl : j < ρ2.length := by rw [← ln]; exact (List.getElem?_eq_some_iff.mp ej).1
          have q3 : ρ2[j]? = some s := by
            rw [List.getD_eq_getElem?_getD] at q2
            rw [List.getElem?_eq_getElem hjl] at q2 ⊢
            rw [q2]
            rfl
          cases s with
          | own b m => exact absurd q3 (saveOk_get sv2 hj)
          | _ => rfl
      · rintro ⟨j, b, m, h, f⟩
        by_cases hj : j ∈ vs
        · have ln : (restE ρ2 vs ρ8).length = ρ2.length := by rw [restE_len, ← n8.abs.len, l6', n2.abs.len]
          have q2 := restE_in hj h
          have hjl : j < ρ2.length := by rw [← ln]; exact (List.getElem?_eq_some_iff.mp h).1
          refine saveOk_get sv2 hj (b := b) (m := m) ?_
          rw [List.getD_eq_getElem?_getD] at q2
          rw [List.getElem?_eq_getElem hjl] at q2 ⊢
          rw [q2]
          rfl
        · rw [restE_out hj] at h
          rw [← s6' j hj] at f
          exact oD8 ⟨j, b, m, h, f⟩
  · refine .inl ⟨(jok G2 H gg2 n2.abs.le i).2 (by omega), ?_⟩
    rw [List.drop_eq_nil_of_le (by omega)] at e2
    have e3 : (.ok acc ρ2 : Out (List PV)) = .ok accF ρF := e2
    cases e3
    exact fin G2 H ws n2 gD2 oD2 hD2 rs2
/-- the body of one walk -/
theorem bd1 {t : EM Bool} {m : EM PV} : BdOk D (bod1 t m) fun σ H Nxt Da => tB D W0 t σ H fun b H3 => if b = true then tE D W0 m σ H3 (fun y H4 => ∃ acc, H4 Da = some (.lst acc) ∧ acc.length < sizeLine ∧ Nxt (upd H4 Da (.lst (acc ++ [y])))) else Nxt H3 := ⟨by
  intro Gb Hb G H σb σ ρb ρ ρ' Da acc acc' ws Nxt hb n gD oD hD rs e fin
  obtain ⟨b, ρ7, e7, e8⟩ := out_ok (show (noX (t ρ)).bind _ = .ok acc' ρ' from e)
  have e7 := noX_ok e7
  refine ⟨G, ρ, n.abs, ?_⟩
  rw [e7]
  intro G7 H7 n7
  obtain ⟨hD7, gD7, oD7⟩ := nx_stays n7 hD gD oD
  cases b with
  | false =>
    cases e8
    refine Eq.mpr (if_neg Bool.false_ne_true) ?_
    exact fin G7 H7 ws (n.trans n7) gD7 oD7 hD7 (rs.mono n7.leg)
  | true =>
    refine Eq.mpr (if_pos rfl) ?_
    obtain ⟨y, ρ8, e9, e10⟩ := out_ok (show (noX (m ρ7)).bind _ = .ok acc' ρ' from e8)
    have e9 := noX_ok e9
    refine ⟨G7, ρ7, n7.abs, ?_⟩
    rw [e9]
    intro G8 H8 n8 w rw'
    obtain ⟨hD8, gD8, oD8⟩ := nx_stays n8 hD7 gD7 oD7
    have rs8 : Reps D G8 acc ws := rs.mono (n7.leg.trans n8.leg)
    by_cases hz : acc.length < sizeLine
    · rw [if_pos hz] at e10
      cases e10
      exact ⟨ws, hD8, by rw [rs8.length]; exact hz, fin G8 _ (ws ++ [w]) (nx_new ((n.trans n7).trans n8) hb gD8 oD8) gD8 oD8 upd_same (rs8.append (Reps.one rw'))⟩
    · rw [if_neg hz] at e10
      cases e10⟩
/-- the body that walks once more -/
theorem bd2 {t t1 : EM Bool} {m : EM PV} {vs1 : List Nat} {mi1 : EM (List PV)} {g1 : TG} {tg1 : Tg} (tk1 : TgX D g1 tg1 vs1) : BdOk D (bod2 t vs1 mi1 tg1 t1 m) fun σ H Nxt Da => tB D W0 t σ H fun b H3 => if b = true then tI D W0 mi1 σ H3 (fun J1 H4 => Lp J1 g1 vs1 σ H4 Nxt (fun σ H Nxt Da => tB D W0 t1 σ H fun b H3 => if b = true then tE D W0 m σ H3 (fun y H4 => ∃ acc, H4 Da = some (.lst acc) ∧ acc.length < sizeLine ∧ Nxt (upd H4 Da (.lst (acc ++ [y])))) else Nxt H3) Da) else Nxt H3 := ⟨by
  intro Gb Hb G H σb σ ρb ρ ρ' Da acc acc' ws Nxt hb n gD oD hD rs e fin
  obtain ⟨b, ρ7, e7, e8⟩ := out_ok (show (noX (t ρ)).bind _ = .ok acc' ρ' from e)
  have e7 := noX_ok e7
  refine ⟨G, ρ, n.abs, ?_⟩
  rw [e7]
  intro G7 H7 n7
  obtain ⟨hD7, gD7, oD7⟩ := nx_stays n7 hD gD oD
  cases b with
  | false =>
    cases e8
    refine Eq.mpr (if_neg Bool.false_ne_true) ?_
    exact fin G7 H7 ws (n.trans n7) gD7 oD7 hD7 (rs.mono n7.leg)
  | true =>
    refine Eq.mpr (if_pos rfl) ?_
    obtain ⟨ys, ρ8, e9, e10⟩ := out_ok (show (noX (mi1 ρ7)).bind _ = .ok acc' ρ' from e8)
    have e9 := noX_ok e9
    refine ⟨G7, ρ7, n7.abs, ?_⟩
    rw [e9]
    intro G8 H8 n8 J jok
    obtain ⟨hD8, gD8, oD8⟩ := nx_stays n8 hD7 gD7 oD7
    have rs8 : Reps D G8 acc ws := rs.mono (n7.leg.trans n8.leg)
    by_cases hz : saveOk ρ8 vs1 = true
    · rw [if_pos hz] at e10
      exact loop_ok bd1 tk1 jok hb hz ((n.trans n7).trans n8) gD8 oD8 hD8 rs8 e10 fun G2 H2 ws2 n2 g2 o2 d2 r2 => fin G2 H2 ws2 n2 g2 o2 d2 r2
    · rw [if_neg hz] at e10
      cases e10⟩
end
def cmp2M (vs : List Nat) (mi : EM (List PV)) (tg : Tg) (bod : List PV → EM (List PV)) : EM MO := fun ρ => (mi ρ).bind fun xs ρ => if saveOk ρ vs then (noX (cL vs tg bod xs [] ρ)).bind fun ys ρ => .ok (.lst ys) ρ else .stuck
section
variable {D : Wd} {W : WX} {X : Cx} {elt tgt iter tgt1 iter1 e : Expr} {ifs ifs1 : List Expr} {scope : Scope} {own : List (Str × Nat)} {pos : Pos} {g g1 : TG} {tg tg1 : Tg} {t t1 : EM Bool} {m : EM PV} {mi mi1 : EM (List PV)} {vs1 : List Nat}
theorem cmp2_le {vs : List Nat} (tk : TgX D g tg vs) (tk1 : TgX D g1 tg1 vs1) (σ : St) (H : Hp) (Q : VK) (h : tN D W (cmp2M vs mi tg (bod2 t vs1 mi1 tg1 t1 m)) σ H Q) : tLc2 (tI D W mi) g (tB D W0 t) (tI D W0 mi1) g1 (tB D W0 t1) (tE D W0 m) vs vs1 σ H Q := by
  obtain ⟨G, ρ, A, k⟩ := h
  have k' : Kg D W ((mi ρ).bind fun xs ρ => if saveOk ρ vs then (noX (cL vs tg (bod2 t vs1 mi1 tg1 t1 m) xs [] ρ)).bind fun ys ρ => (.ok (.lst ys) ρ : Out MO) else .stuck) G H σ ρ fun mo ρ' G' H' => ∀ a, G' a = none → H a = none → MRep D G' H' a mo → ¬ Ow σ ρ' a → Q (.ref a) H' := k
  refine ⟨G, ρ, A, (Kg.bind k').mono fun xs ρ1 G1 H1 n1 k1 J jok => ?_⟩
  intro Da hDa
  by_cases sv : saveOk ρ1 vs = true
  · rw [if_pos sv] at k1
    cases hz : cL vs tg (bod2 t vs1 mi1 tg1 t1 m) xs [] ρ1 with
    | stuck => rw [hz] at k1; exact k1.elim
    | exc e ρ' => rw [hz] at k1; exact k1.elim
    | ok ys ρ2 =>
      rw [hz] at k1
      have gD : G1 Da = none := by
        cases q : G1 Da with
        | none => rfl
        | some u =>
          have e := n1.abs.le Da u q
          rw [hDa] at e; cases e
      have oD : ¬ Ow σ ρ1 Da := fun w => by
        obtain ⟨⟨o, ho⟩, _⟩ := n1.abs.ow_some w
        rw [hDa] at ho; cases ho
      have n0 : Nx D G1 H1 σ ρ1 G1 (upd H1 Da (.lst [])) σ ρ1 := nx_new (Nx.refl n1.abs) hDa gD oD
      have lp := loop_ok (Fin := Q (.ref Da)) (accS := []) (wsS := []) (bd2 tk1) tk jok hDa sv n0 gD oD upd_same (show Reps D G1 [] [] from rfl) hz fun G2 H2 ws n2 g2 o2 d2 r2 => k1 G2 H2 n2 Da g2 (n1.d Da hDa) ⟨ws, d2, r2⟩ o2
      exact lp
  · rw [if_neg sv] at k1
    exact k1.elim
theorem rn_lc2 (hc : X.calm = true) (hN : X.N.Nodup) (ok : BlkOk X.N X.env.scope scope own) (hv : ∀ i ∈ vs1, i ∈ own.map (·.2)) (tk : TgX D g tg (own.map (·.2))) (tk1 : TgX D g1 tg1 vs1) (hi : RI D W X tgt iter mi)
    (hg : ∀ (s : Shared) (H : Hp) (C : Addr) (cl : List (Str × Addr)) (fp : List Addr), PG (X.blk s H scope (compEnvC scope cl C X.env) fp) tgt g)
    (ht : ∀ (s : Shared) (H : Hp) (C : Addr) (cl : List (Str × Addr)) (fp : List Addr), PTs (X.blk s H scope (compEnvC scope cl C X.env) fp) ifs (tB D W0 t))
    (hi1 : ∀ (s : Shared) (H : Hp) (C : Addr) (cl : List (Str × Addr)) (fp : List Addr), RI D W0 (X.blk s H scope (compEnvC scope cl C X.env) fp) tgt1 iter1 mi1)
    (hg1 : ∀ (s : Shared) (H : Hp) (C : Addr) (cl : List (Str × Addr)) (fp : List Addr), PG (X.blk s H scope (compEnvC scope cl C X.env) fp) tgt1 g1)
    (ht1 : ∀ (s : Shared) (H : Hp) (C : Addr) (cl : List (Str × Addr)) (fp : List Addr), PTs (X.blk s H scope (compEnvC scope cl C X.env) fp) ifs1 (tB D W0 t1))
    (he : ∀ (s : Shared) (H : Hp) (C : Addr) (cl : List (Str × Addr)) (fp : List Addr), RE D W0 (X.blk s H scope (compEnvC scope cl C X.env) fp) elt m) (hs : ∀ x, foldedSetIterable iter X.env x = pure x := by intro _; rfl) (hs1 : ∀ env x, foldedSetIterable iter1 env x = pure x := by intro _ _; rfl) :
    RN D W X (.ListComp elt [⟨tgt, iter, ifs, 0⟩, ⟨tgt1, iter1, ifs1, 0⟩] scope pos) (cmp2M (own.map (·.2)) mi tg (bod2 t vs1 mi1 tg1 t1 m)) := (pe_lc2 hc hN hi ok hv hg ht hi1 hg1 ht1 he hs hs1).imp (cmp2_le tk tk1)
theorem s_setLc2 {i : Nat} {y : Str} {py spos : Pos} (hc : X.calm = true) (hN : X.N.Nodup) (hy : X.N[i]? = some y) (hyl : X.env.scope.names.lookup y = some .local)
    (hsw : swapsWith (.ListComp elt [⟨tgt, iter, ifs, 0⟩, ⟨tgt1, iter1, ifs1, 0⟩] scope pos) (some (.Name y py)) spos.line X.env = pure true) (ok : BlkOk X.N X.env.scope scope own) (hv : ∀ i ∈ vs1, i ∈ own.map (·.2)) (tk : TgX D g tg (own.map (·.2))) (tk1 : TgX D g1 tg1 vs1) (hi : RI D W X tgt iter mi)
    (hg : ∀ (s : Shared) (H : Hp) (C : Addr) (cl : List (Str × Addr)) (fp : List Addr), PG (X.blk s H scope (compEnvC scope cl C X.env) fp) tgt g)
    (ht : ∀ (s : Shared) (H : Hp) (C : Addr) (cl : List (Str × Addr)) (fp : List Addr), PTs (X.blk s H scope (compEnvC scope cl C X.env) fp) ifs (tB D W0 t))
    (hi1 : ∀ (s : Shared) (H : Hp) (C : Addr) (cl : List (Str × Addr)) (fp : List Addr), RI D W0 (X.blk s H scope (compEnvC scope cl C X.env) fp) tgt1 iter1 mi1)
    (hg1 : ∀ (s : Shared) (H : Hp) (C : Addr) (cl : List (Str × Addr)) (fp : List Addr), PG (X.blk s H scope (compEnvC scope cl C X.env) fp) tgt1 g1)
    (ht1 : ∀ (s : Shared) (H : Hp) (C : Addr) (cl : List (Str × Addr)) (fp : List Addr), PTs (X.blk s H scope (compEnvC scope cl C X.env) fp) ifs1 (tB D W0 t1))
    (he : ∀ (s : Shared) (H : Hp) (C : Addr) (cl : List (Str × Addr)) (fp : List Addr), RE D W0 (X.blk s H scope (compEnvC scope cl C X.env) fp) elt m) (hs : ∀ x, foldedSetIterable iter X.env x = pure x := by intro _; rfl) (hs1 : ∀ env x, foldedSetIterable iter1 env x = pure x := by intro _ _; rfl) :
    RS D W X (.Assign [.Name y py] (.ListComp elt [⟨tgt, iter, ifs, 0⟩, ⟨tgt1, iter1, ifs1, 0⟩] scope pos) spos) (setO i (cmp2M (own.map (·.2)) mi tg (bod2 t vs1 mi1 tg1 t1 m))) :=
  (ps_setLc2 hc hN hy hyl hsw hi ok hv hg ht hi1 hg1 ht1 he hs hs1).imp fun E σ H ⟨G, ρ, A, k⟩ => by
    refine cmp2_le (W := W) tk tk1 σ H _ ⟨G, ρ, A, ?_⟩
    unfold setO at k
    revert k
    cases cmp2M (own.map (·.2)) mi tg (bod2 t vs1 mi1 tg1 t1 m) ρ with
    | stuck => exact fun k => k
    | exc e ρ' => exact fun k G' H' c d n er => k G' H' σ c d n er
    | ok mo ρ' =>
      intro k G' H' n ad g ha r no
      rw [Out.to_ok] at k
      unfold putO at k
      split at k
      · rename_i h
        exact k G' H' _ (nx_putO n g ha r no (mayPut_no h))
      · exact False.elim k
end
/-! evaluation -/
def kCn (vs : List Nat) (tg : Tg) (bod : List PV → EM (List PV)) : List PV → Ev → Out MO := fun xs ρ => if saveOk ρ vs = true then (noX (cL vs tg bod xs [] ρ)).bind kLs2 else .stuck
@[simp] theorem kCn_ (vs : List Nat) (tg : Tg) (bod : List PV → EM (List PV)) (xs : List PV) (ρ : Ev) : kCn vs tg bod xs ρ = if saveOk ρ vs = true then (noX (cL vs tg bod xs [] ρ)).bind kLs2 else .stuck := (rfl)
@[simp] theorem ev_cmp2 (vs : List Nat) (mi : EM (List PV)) (tg : Tg) (bod : List PV → EM (List PV)) (ρ : Ev) : cmp2M vs mi tg bod ρ = (mi ρ).bind (kCn vs tg bod) := (rfl)
@[simp] theorem cL_nil (vs : List Nat) (tg : Tg) (bod : List PV → EM (List PV)) (acc : List PV) (ρ : Ev) : cL vs tg bod [] acc ρ = .ok acc ρ := (rfl)
@[simp] theorem noX_okk {α : Type} (x : α) (ρ : Ev) : noX (.ok x ρ) = .ok x ρ := (rfl)
theorem cL_rule {vs : List Nat} {tg : Tg} {bod : List PV → EM (List PV)} (R : List PV → List PV → Ev → Prop)
    (step : ∀ x xs acc ρ, R (x :: xs) acc ρ → ∃ ρ1 acc2 ρ2, tg x (wipeE ρ vs) = some ρ1 ∧ bod acc ρ1 = .ok acc2 ρ2 ∧ R xs acc2 (restE ρ vs ρ2)) :
    ∀ (xs acc : List PV) (ρ : Ev), R xs acc ρ → ∃ ys ρ', cL vs tg bod xs acc ρ = .ok ys ρ' ∧ R [] ys ρ'
  | [], acc, ρ, h => ⟨acc, ρ, rfl, h⟩
  | x :: xs, acc, ρ, h => by
    obtain ⟨ρ1, acc2, ρ2, e1, e2, r⟩ := step x xs acc ρ h
    obtain ⟨ys, ρ', q1, q2⟩ := cL_rule R step xs acc2 _ r
    refine ⟨ys, ρ', ?_, q2⟩
    rw [cL]
    simp only [e1, e2]
    exact q1
/-- the body of one walk, with no test -/
theorem bod1_ok {e : EM PV} {acc : List PV} {ρ ρ' : Ev} {y : PV} (h : e ρ = .ok y ρ') (hl : acc.length < sizeLine) : bod1 noT e acc ρ = .ok (acc ++ [y]) ρ' := by
  show (noX (e ρ)).bind _ = _
  rw [h]
  show (if acc.length < sizeLine then Out.ok (acc ++ [y]) ρ' else .stuck) = _
  rw [if_pos hl]
theorem bod2_ok {vs1 : List Nat} {mi1 : EM (List PV)} {tg1 : Tg} {t1 : EM Bool} {e : EM PV} {acc acc' ys : List PV} {ρ ρ1 ρ' : Ev} (h : mi1 ρ = .ok ys ρ1) (hs : saveOk ρ1 vs1 = true) (hc : cL vs1 tg1 (bod1 t1 e) ys acc ρ1 = .ok acc' ρ') : bod2 noT vs1 mi1 tg1 t1 e acc ρ = .ok acc' ρ' := by
  show (noX (mi1 ρ)).bind _ = _
  rw [h]
  show (if saveOk ρ1 vs1 = true then cL vs1 tg1 (bod1 t1 e) ys acc ρ1 else .stuck) = _
  rw [if_pos hs, hc]
end TR

set_option Elab.async false
set_option linter.all false
set_option maxRecDepth 100000
/-! TRZC: isinstance with a tuple of types, calls with keywords and defaults, classes made so. -/
namespace TR
open PySem PySem.Spec L2
set_option autoImplicit false
section
variable {D : Wd} {W : WX} {X : Cx} {e o : Expr} {es : List Expr} {pos p p2 p3 p4 p6 kpos : Pos} {p5 : Nat} {m mo : EM PV} {ms mk : EM (List AV)} {G G1 G' H H1 H2 H' : Hp} {kws : List Keyword} {nm : Option Str}
/-! ### isinstance(e, (T1, T2)) -/
def isTM (m : EM PV) (Ts : List Ty) : EM PV := fun ρ => (m ρ).bind fun x ρ => .ok (.bl (Ts.any fun T => isTy x T)) ρ
theorem kit_any2 {K : PySem.W.Frag} {t : Value} {x : PV} (f : ∀ T : Ty, PySem.W.kitOne K t (.type T.nm) = some (isTy x T)) (T1 T2 : Ty) : PySem.W.kitAny K t [.type T1.nm, .type T2.nm] = some ([T1, T2].any fun T => isTy x T) := by
  refine kitAny_cons (f T1) (fun h1 => kitAny_cons (f T2) (fun h2 => ?_) fun h2 => ?_) fun h1 => ?_
  · rw [kitAny_nil]; simp [h1, h2]
  · simp [h1, h2]
  · simp [h1]
theorem RepH.up (l : LeG H H') {x : PV} {v : V} (r : RepH D G H x v) : RepH D G H' x v := by
  cases x with
  | lst xs => obtain ⟨a, vs, e, q, r⟩ := r; exact ⟨a, vs, e, sqL_mono l q, r⟩
  | dct xs => obtain ⟨a, ws, e, q, r⟩ := r; exact ⟨a, ws, e, l.rd q, r⟩
  | obj c fs => obtain ⟨a, C, dx, ws, e, q, t, r⟩ := r; exact ⟨a, C, dx, ws, e, l _ _ q, t, r⟩
  | _ => exact r
theorem re_isT2 (hT : IsAll D) (T1 T2 : Ty) {x y : Str} (hK : D.K = X.K) (he : RP D W X e m) (hg : Gl X "isinstance") (hm : X.mg "isinstance" = none) (hg2 : Gl X x) (hm2 : X.mg x = none) (hg3 : Gl X y) (hm3 : X.mg y = none) (hv2 : bootBuiltins x = some (.type T1.nm)) (hv3 : bootBuiltins y = some (.type T2.nm))
    (hn2 : x ≠ "__name__" := by decide) (hd2 : (x == ("__debug__" : Str)) = false := by decide) (hn3 : y ≠ "__name__" := by decide) (hd3 : (y == ("__debug__" : Str)) = false := by decide)
    (hs : starEach [e, .Tuple [.Name x p3, .Name y p4] p5 p6] X.env = (false, eval e X.env) :: starEach [.Tuple [.Name x p3, .Name y p4] p5 p6] X.env := by rfl)
    (hs2 : starEach [.Tuple [.Name x p3, .Name y p4] p5 p6] X.env = (false, eval (.Tuple [.Name x p3, .Name y p4] p5 p6) X.env) :: starEach [] X.env := by rfl)
    (ht : starEach [.Name x p3, .Name y p4] X.env = (false, eval (.Name x p3) X.env) :: starEach [.Name y p4] X.env := by rfl) (ht2 : starEach [.Name y p4] X.env = (false, eval (.Name y p4) X.env) :: starEach [] X.env := by rfl)
    (hpl : (backTo p2 (starEach [.Tuple [.Name x p3, .Name y p4] p5 p6] X.env)).any (·.1) = false := by rfl) :
    RE D W X (.Call (.Name "isinstance" p) [e, .Tuple [.Name x p3, .Name y p4] p5 p6] [] p2) (isTM m [T1, T2]) :=
  (pe_callB call_isiT hg hm PyProof.Rows.boot_isinstance (pa_cons he (pa_cons (pe_tup (pa_cons (pe_bltn hg2 hm2 hv2 (show RelV (.ty T1.nm) (.type T1.nm) from rfl) hn2 hd2) (pa_cons (pe_bltn hg3 hm3 hv3 (show RelV (.ty T2.nm) (.type T2.nm) from rfl) hn3 hd3) pa_nil ht2) ht)) pa_nil hs2) hs) (by decide) (by decide) hs hpl).imp fun σ H Q ⟨G, ρ, A, k⟩ =>
    ⟨G, ρ, A, (Kg.bind k).mono fun x' ρ1 G1 H1 n1 k1 v rv => by
      refine ⟨by rw [sizeLine_eq]; simp, fun q hq => ?_⟩
      have gr := Grow.newH (o := .tup [.ty T1.nm, .ty T2.nm]) n1.abs.le hq
      obtain ⟨t, ty, f, _⟩ := ty_of hT gr.le (rv.up (LeG.of_same fun a u h => gr.k a u h))
      exact ⟨v, q, _, t, [.type T1.nm, .type T2.nm], _, rfl, upd_same, .cons (.ty _) (.cons (.ty _) .nil), hK ▸ ty, kit_any2 (hK ▸ f) T1 T2, k1 G1 _ (n1.abs.grow gr) _ rfl⟩⟩
def kIT (Ts : List Ty) : PV → Ev → Out PV := fun x ρ => .ok (.bl (Ts.any fun T => isTy x T)) ρ
@[simp] theorem kIT_ (Ts : List Ty) (x : PV) (ρ : Ev) : kIT Ts x ρ = .ok (.bl (Ts.any fun T => isTy x T)) ρ := (rfl)
@[simp] theorem ev_isTM (m : EM PV) (Ts : List Ty) (ρ : Ev) : isTM m Ts ρ = (m ρ).bind (kIT Ts) := (rfl)

/-! ### calls with keywords and defaults -/
/-- where a parameter's value comes from: the j-th of the values told (the keywords' behind the others), or a default -/
inductive Src where
  | at (i : Nat) | df (j : Nat) (x : PV)
def Src.av (as : List AV) : Src → AV
  | .at i => as.getD i (.v .non)
  | .df _ x => .v x
def Src.sv (dV : Nat → V) (vs : List V) : Src → V
  | .at i => vs.getD i .non
  | .df j _ => dV j
def Src.uv (dU : Nat → Value) (us : List Value) : Src → Value
  | .at i => us.getD i .none
  | .df j _ => dU j
structure KwB (K : PySem.W.Frag) (D : Wd) (fd : FuncData) (ps : List Str) (n : Nat) (ks : List Str) (arr : List Src) : Prop where
  ex : ∃ (dU : Nat → Value) (dV : Nat → V), (∀ j x, Src.df j x ∈ arr → RelV (dV j) (dU j) ∧ ∀ G, Rep D G x (dV j)) ∧ ∀ (s : Shared) (us ws : List Value), K.In s.heap → us.length = n → ws.length = ks.length → BindsTo s fd ⟨us, ks.zip ws⟩ (ps.zip (arr.map (Src.uv dU (us ++ ws))))
theorem vals_getD : ∀ {vs : List V} {us : List Value} (i : Nat), Vals vs us → RelV (vs.getD i .non) (us.getD i .none)
  | _, _, i, .nil => by simp; rfl
  | _, _, 0, .cons r t => r
  | _, _, i + 1, .cons r t => by simpa using vals_getD i t
theorem vals_arr {dV : Nat → V} {dU : Nat → Value} {vs : List V} {us : List Value} (r : Vals vs us) : ∀ (arr : List Src), (∀ j x, Src.df j x ∈ arr → RelV (dV j) (dU j)) → Vals (arr.map (Src.sv dV vs)) (arr.map (Src.uv dU us))
  | [], _ => .nil
  | .at i :: arr, h => .cons (vals_getD i r) (vals_arr r arr fun j x m => h j x (List.mem_cons_of_mem _ m))
  | .df i y :: arr, h => .cons (h i y List.mem_cons_self) (vals_arr r arr fun j x m => h j x (List.mem_cons_of_mem _ m))
theorem avs_getD {σ : St} {as : List AV} {vs : List V} (h : AVs D G σ as vs) (i : Nat) : (∃ x, as.getD i (.v .non) = .v x ∧ Rep D G x (vs.getD i .non)) ∨ ∃ j, as.getD i (.v .non) = .s j ∧ σ[j]? = some (some (vs.getD i .non)) := by
  induction as generalizing vs i with
  | nil =>
    rw [show vs = [] from h]
    exact .inl ⟨.non, by simp, by simp [Rep]⟩
  | cons a as ih =>
    cases a with
    | v x =>
      obtain ⟨v, ws, rfl, h1, h2⟩ := h
      cases i with
      | zero => exact .inl ⟨x, rfl, h1⟩
      | succ i => simpa using ih h2 i
    | s x =>
      obtain ⟨v, ws, rfl, h1, h2⟩ := h
      cases i with
      | zero => exact .inr ⟨x, rfl, h1⟩
      | succ i => simpa using ih h2 i
theorem avs_arr {σ : St} {dV : Nat → V} {as : List AV} {vs : List V} (h : AVs D G σ as vs) : ∀ (arr : List Src), (∀ j x, Src.df j x ∈ arr → Rep D G x (dV j)) → AVs D G σ (arr.map (Src.av as)) (arr.map (Src.sv dV vs))
  | [], _ => rfl
  | .df i y :: arr, k => ⟨_, _, rfl, k i y List.mem_cons_self, avs_arr h arr fun j x m => k j x (List.mem_cons_of_mem _ m)⟩
  | .at i :: arr, k => by
    have r := avs_arr h arr fun j x m => k j x (List.mem_cons_of_mem _ m)
    show AVs D G σ (as.getD i (.v .non) :: arr.map (Src.av as)) (vs.getD i .non :: arr.map (Src.sv dV vs))
    rcases avs_getD h i with ⟨x, e, q⟩ | ⟨j, e, q⟩
    · rw [e]; exact ⟨_, _, rfl, q, r⟩
    · rw [e]; exact ⟨_, _, rfl, q, r⟩
theorem avs_app {σ : St} : ∀ {as bs : List AV} {vs ws : List V}, AVs D G σ as vs → AVs D G σ bs ws → AVs D G σ (as ++ bs) (vs ++ ws)
  | [], _, _, _, h, k => by rw [show _ = [] from h]; exact k
  | .v x :: as, bs, _, ws, h, k => by
    obtain ⟨v, r, rfl, h1, h2⟩ := h
    exact ⟨v, r ++ ws, rfl, h1, avs_app h2 k⟩
  | .s x :: as, bs, _, ws, h, k => by
    obtain ⟨v, r, rfl, h1, h2⟩ := h
    exact ⟨v, r ++ ws, rfl, h1, avs_app h2 k⟩
theorem avs_len {σ : St} : ∀ {as : List AV} {vs : List V}, AVs D G σ as vs → vs.length = as.length
  | [], _, h => by rw [show _ = [] from h]; rfl
  | .v x :: as, _, h => by
    obtain ⟨v, r, rfl, h1, h2⟩ := h
    simp [avs_len h2]
  | .s x :: as, _, h => by
    obtain ⟨v, r, rfl, h1, h2⟩ := h
    simp [avs_len h2]
/-- the values told, put in the parameters' order -/
def argsK (n m : Nat) (arr : List Src) (ms mk : EM (List AV)) : EM (List AV) := fun ρ => (ms ρ).bind fun as ρ => (mk ρ).bind fun bs ρ => if as.length = n ∧ bs.length = m then .ok (arr.map (Src.av (as ++ bs))) ρ else .stuck
theorem argsK_le {n m : Nat} {arr : List Src} {dV : Nat → V} (hd : ∀ j x, Src.df j x ∈ arr → ∀ G, Rep D G x (dV j)) (σ : St) (H : Hp) (R : List V → Hp → Prop) (h : tA D W (argsK n m arr ms mk) σ H R) :
    tA D W ms σ H fun vs H1 => tA D W mk σ H1 fun zs H2 => vs.length = n ∧ zs.length = m ∧ R (arr.map (Src.sv dV (vs ++ zs))) H2 := by
  obtain ⟨G, ρ, A, k⟩ := h
  refine ⟨G, ρ, A, (Kg.bind k).mono fun as ρ1 G1 H1 n1 k1 vs rv => ⟨G1, ρ1, n1.abs, (Kg.bind k1).mono fun bs ρ2 G2 H2 n2 k2 zs rz => ?_⟩⟩
  split at k2
  · rename_i hl
    refine ⟨(avs_len rv).trans hl.1, (avs_len rz).trans hl.2, k2 G2 H2 (Nx.refl n2.abs) _ (avs_arr (avs_app (rv.mono n2.leg) rz) arr fun j x m => hd j x m G2)⟩
  · exact False.elim k2
abbrev RK (D : Wd) (W : WX) (X : Cx) (kws : List Keyword) (m : EM (List AV)) : Prop := PK X kws (tA D W m)
theorem pk_imp {t t' : TA} (h : PK X kws t) (i : ∀ σ H Q, t' σ H Q → t σ H Q) : PK X kws t' := ⟨fun pos pins s σ H Q I w => h.run pos pins s σ H Q I (i _ _ _ w)⟩
theorem rk_nil : RK D W X [] argNil := pk_imp pk_nil fun σ H Q ⟨G, ρ, A, k⟩ => k G H (Nx.refl A) [] rfl
theorem rk_v (h : RE D W X e m) (r : RK D W X kws ms) : RK D W X (⟨nm, e, kpos⟩ :: kws) (argV m ms) :=
  pk_imp (pk_cons h r) fun σ H Q ⟨G, ρ, A, k⟩ => ⟨G, ρ, A, (Kg.bind k).mono fun x ρ1 G1 H1 n1 k1 v rv => ⟨G1, ρ1, n1.abs, (Kg.bind k1).mono fun as ρ2 G2 H2 n2 k2 vs rs => k2 G2 H2 (Nx.refl n2.abs) (v :: vs) ⟨v, vs, rfl, rv.mono n2.leg, rs⟩⟩⟩
theorem rk_n (i : Nat) (h : PE X e (tVar i)) (r : RK D W X kws ms) : RK D W X (⟨nm, e, kpos⟩ :: kws) (argN i ms) :=
  pk_imp (pk_cons h r) fun σ H Q ⟨G, ρ, A, k⟩ => by
    obtain ⟨x, v, ev, r0, k0⟩ := peek_ok A (Kg.bind k)
    exact ⟨v, ev, G, ρ, A, (Kg.bind k0).mono fun as ρ2 G2 H2 n2 k2 vs rs => k2 G2 H2 (Nx.refl n2.abs) (v :: vs) ⟨v, vs, rfl, ev, rs⟩⟩
/-- a def called with keywords: the forms of the calls that are met -/
structure Sh where
  n : Nat
  ks : List Str
  arr : List Src
structure DefAtK (K : PySem.W.Frag) (mg : Str → Option Value) (D : Wd) (x : Str) (st : Stmt) (ps : List Str) (shs : List Sh) : Prop where
  ex : ∃ (f : Addr) (fd : FuncData), mg x = some (.ref f) ∧ Fun K x x st f fd ∧ ∀ sh ∈ shs, KwB K D fd ps sh.n sh.ks sh.arr
structure FnAtK (P : Program) (w : World) (K : PySem.W.Frag) (mg : Str → Option Value) (base : Heap) (D : Wd) (k : Nat) (x : Str) (ps : List Str) (shs : List Sh) (fm : FM) : Prop where
  ex : ∃ (f : Addr) (fd : FuncData), mg x = some (.ref f) ∧ PySem.W.keepIn K (.ref f) = true ∧ (∀ sh ∈ shs, KwB K D fd ps sh.n sh.ks sh.arr) ∧ FnOk P w K mg base (L2.CX P w) k f fd ps (FSp D fm)
theorem FnAtK.mono {P : Program} {w : World} {K : PySem.W.Frag} {mg : Str → Option Value} {base : Heap} {j k : Nat} {x : Str} {ps : List Str} {shs : List Sh} {fm : FM} (h : FnAtK P w K mg base D j x ps shs fm) (l : j ≤ k) : FnAtK P w K mg base D k x ps shs fm :=
  let ⟨f, fd, a, b, c, F⟩ := h.ex; ⟨f, fd, a, b, c, F.mono l⟩
theorem fnK_at {P : Program} {w : World} {K : PySem.W.Frag} {mg : Str → Option Value} {base : Heap} {x : Str} {st : Stmt} {N ps : List Str} {shs : List Sh} {k n : Nat} {body : SM} (d : DefAtK K mg D x st ps shs) (S : FnScope N ps (defScope st)) (hn : ps.length = n) (hN : n ≤ N.length)
    (hb : ∀ {f : Addr} (cdv : Value) (A : Around) (outer : List Env) (s : Shared) (H : Hp) (E : XK), Room k (A.deeper (PyProof.Rows.envOfC x (defScope st) s.heap.objs.size f cdv)) → Takes (cxB P w K mg base N x (defScope st) f cdv A outer s H E) (fun c d _ H => E c d H) → RSs D (fun c d _ H => E c d H) (cxB P w K mg base N x (defScope st) f cdv A outer s H E) (defBody st) body) :
    FnAtK P w K mg base D (k + 1) x ps shs (fnB n N.length body) := by
  obtain ⟨f, fd, h1, h2, h3⟩ := d.ex
  exact ⟨f, fd, h1, h2.kp, h3, fn_ok h2 S hn hN fun cdv A outer s H E hr => hb cdv A outer s H E hr (takes_of rfl rfl rfl rfl)⟩
theorem run_kw {k : Nat} {f : Addr} {fd : FuncData} {ps ks : List Str} {arr : List Src} {sp : Sp} {pins : List (Addr × Obj)} {σ : St} {s : Shared} {Q : VK} {us ws : List Value} {vs zs : List V} {dU : Nat → Value} {dV : Nat → V}
    (F : FnOk X.prog X.w X.K X.mg X.base (L2.CX X.prog X.w) k f fd ps sp) (hr : Room k X.A) (tk : Takes X W) (hd : ∀ j x, Src.df j x ∈ arr → RelV (dV j) (dU j)) (hb : BindsTo s fd ⟨us, ks.zip ws⟩ (ps.zip (arr.map (Src.uv dU (us ++ ws)))))
    (I : Inv X pins σ H s) (r : Vals vs us) (rz : Vals zs ws) (h : sp (arr.map (Src.sv dV (vs ++ zs))) H Q (WE W σ)) : wpAny (model X.prog X.w) X.A (call (.ref f) us (ks.zip ws)) (EP X pins σ Q) X.xe s := by
  refine wpAny_call (codeAny_mono (F.run X.A X.stack s H ⟨us, ks.zip ws⟩ _ _ Q (WE W σ) hr I.env0 hb (vals_arr (r.append rz) arr hd) h) fun res s' hq => ?_)
  cases res with
  | error er => exact passAt tk σ pins H s er s' I hq
  | ok fl =>
    cases fl with
    | ret u => exact I.after hq
    | _ => exact False.elim hq
/-- what a call with keywords asks -/
def tKw (n m : Nat) (W : WX) (R : List V → List V → Hp → VK → XK → Prop) (t tk : TA) : TE := fun σ H Q => t σ H fun vs H1 => tk σ H1 fun zs H2 => vs.length = n ∧ zs.length = m ∧ R vs zs H2 Q (WE W σ)
theorem pe_kw {k n : Nat} {f : Addr} {fd : FuncData} {ps ks : List Str} {arr : List Src} {sp : Sp} {x : Str} {ta tz : TA} {dU : Nat → Value} {dV : Nat → V} (F : FnOk X.prog X.w X.K X.mg X.base (L2.CX X.prog X.w) k f fd ps sp) (hr : Room k X.A) (tk : Takes X W)
    (hd : ∀ j x, Src.df j x ∈ arr → RelV (dV j) (dU j)) (hb : ∀ (s : Shared) (us ws : List Value), X.K.In s.heap → us.length = n → ws.length = ks.length → BindsTo s fd ⟨us, ks.zip ws⟩ (ps.zip (arr.map (Src.uv dU (us ++ ws)))))
    (hg : Gl X x) (hm : X.mg x = some (.ref f)) (hk : PySem.W.keepIn X.K (.ref f) = true) (ha : PA X (e :: es) ta) (hz : PK X kws tz)
    (hall : (backToKw pos (keywordEach kws X.env)).all (·.1.isSome) = true) (hks : (backToKw pos (keywordEach kws X.env)).filterMap (·.1) = ks) (hdb : (x == ("__debug__" : Str)) = false)
    (he : starEach (e :: es) X.env = (false, eval e X.env) :: starEach es X.env) (hpl : ((backTo pos (starEach (e :: es) X.env)).any (·.1) || (backToKw pos (keywordEach kws X.env)).any (·.1.isNone)) = false) :
    PE X (.Call (.Name x p) (e :: es) kws pos) (tKw n ks.length W (fun vs zs H Q E => sp (arr.map (Src.sv dV (vs ++ zs))) H Q E) ta tz) := ⟨fun pins s σ H Q I h => by
  refine wpAny_Call_Name_kw (ld_glob I hg hm (PySem.W.callWith_KW (h₀ := X.base) I.ok.mod.kin hk hall (thn (ha.run pos pins s σ H _ I h) fun us s1 hy => ?_) hpl he) hdb)
  obtain ⟨vs, H1, I1, r, q⟩ := hy
  refine thn (hz.run pos pins s1 σ H1 _ I1 q) fun ws s2 hy => ?_
  obtain ⟨zs, H2, I2, rz, l1, l2, q2⟩ := hy
  refine ⟨I2.kIn, ?_⟩
  rw [hks]
  exact run_kw F hr tk hd (hb s2 us ws I2.kIn (r.length.symm.trans l1) (rz.length.symm.trans l2)) I2 r rz q2⟩
theorem re_callK {k : Nat} {x : Str} {ps : List Str} {shs : List Sh} {fm : FM} {sh : Sh} (F : FnAtK X.prog X.w X.K X.mg X.base D k x ps shs fm) (hs : sh ∈ shs) (hr : Room k X.A) (tk : Takes X W) (ha : RA D W X (e :: es) ms) (hz : RK D W X kws mk) (hg : Gl X x := by rfl)
    (hall : (backToKw pos (keywordEach kws X.env)).all (·.1.isSome) = true := by rfl) (hks : (backToKw pos (keywordEach kws X.env)).filterMap (·.1) = sh.ks := by rfl) (hdb : (x == ("__debug__" : Str)) = false := by decide)
    (he : starEach (e :: es) X.env = (false, eval e X.env) :: starEach es X.env := by rfl) (hpl : ((backTo pos (starEach (e :: es) X.env)).any (·.1) || (backToKw pos (keywordEach kws X.env)).any (·.1.isNone)) = false := by rfl) :
    RE D W X (.Call (.Name x p) (e :: es) kws pos) (callE fm (argsK sh.n sh.ks.length sh.arr ms mk)) := by
  obtain ⟨f, fd, h1, h2, h3, h4⟩ := F.ex
  obtain ⟨dU, dV, hd, hb⟩ := (h3 sh hs).ex
  exact (pe_kw h4 hr tk (fun j x m => (hd j x m).1) hb hg h1 h2 ha hz hall hks hdb he hpl).imp fun σ H Q h => argsK_le (fun j x m => (hd j x m).2) σ H _ (callE_le σ H Q h)
theorem rn_callK {k : Nat} {x : Str} {ps : List Str} {shs : List Sh} {fm : FM} {sh : Sh} (F : FnAtK X.prog X.w X.K X.mg X.base D k x ps shs fm) (hs : sh ∈ shs) (hr : Room k X.A) (tk : Takes X W) (ha : RA D W X (e :: es) ms) (hz : RK D W X kws mk) (hg : Gl X x := by rfl)
    (hall : (backToKw pos (keywordEach kws X.env)).all (·.1.isSome) = true := by rfl) (hks : (backToKw pos (keywordEach kws X.env)).filterMap (·.1) = sh.ks := by rfl) (hdb : (x == ("__debug__" : Str)) = false := by decide)
    (he : starEach (e :: es) X.env = (false, eval e X.env) :: starEach es X.env := by rfl) (hpl : ((backTo pos (starEach (e :: es) X.env)).any (·.1) || (backToKw pos (keywordEach kws X.env)).any (·.1.isNone)) = false := by rfl) :
    RN D W X (.Call (.Name x p) (e :: es) kws pos) (callO fm (argsK sh.n sh.ks.length sh.arr ms mk)) := by
  obtain ⟨f, fd, h1, h2, h3, h4⟩ := F.ex
  obtain ⟨dU, dV, hd, hb⟩ := (h3 sh hs).ex
  exact (pe_kw h4 hr tk (fun j x m => (hd j x m).1) hb hg h1 h2 ha hz hall hks hdb he hpl).imp fun σ H Q h => argsK_le (fun j x m => (hd j x m).2) σ H _ (callO_le σ H Q h)
/-! evaluation -/
def kK2 (n m : Nat) (arr : List Src) (as : List AV) : List AV → Ev → Out (List AV) := fun bs ρ => if as.length = n ∧ bs.length = m then .ok (arr.map (Src.av (as ++ bs))) ρ else .stuck
def kK1 (n m : Nat) (arr : List Src) (mk : EM (List AV)) : List AV → Ev → Out (List AV) := fun as ρ => (mk ρ).bind (kK2 n m arr as)
@[simp] theorem kK2_ (n m : Nat) (arr : List Src) (as bs : List AV) (ρ : Ev) : kK2 n m arr as bs ρ = if as.length = n ∧ bs.length = m then .ok (arr.map (Src.av (as ++ bs))) ρ else .stuck := (rfl)
@[simp] theorem kK1_ (n m : Nat) (arr : List Src) (mk : EM (List AV)) (as : List AV) (ρ : Ev) : kK1 n m arr mk as ρ = (mk ρ).bind (kK2 n m arr as) := (rfl)
@[simp] theorem ev_argsK (n m : Nat) (arr : List Src) (ms mk : EM (List AV)) (ρ : Ev) : argsK n m arr ms mk ρ = (ms ρ).bind (kK1 n m arr mk) := (rfl)
@[simp] theorem src_at (as : List AV) (i : Nat) : Src.av as (.at i) = as.getD i (.v .non) := (rfl)
@[simp] theorem src_df (as : List AV) (i : Nat) (x : PV) : Src.av as (.df i x) = .v x := (rfl)
end
end TR

set_option Elab.async false
set_option linter.all false
set_option maxRecDepth 100000
/-! TRZD: own exceptions over Exception: made, raised, caught. -/
namespace TR
open PySem PySem.Spec L2
set_option autoImplicit false
abbrev eTail : List Value := [.type "Exception", .type "BaseException", .type "object"]
/-- what the written part says of such a class -/
structure XcC (K : PySem.W.Frag) (C : Addr) : Prop where
  init : PySem.W.excInitIn K C eTail "Exception.__new__" = true
  over : PySem.W.excOver K C eTail = true
  hd : PySem.W.hasDictIn K C = true
  sa : PySem.W.findIn K (.ref C) "__setattr__" = some (some (.builtin "object.__setattr__"))
  exC : PySem.W.subIn K (.ref C) (.type "BaseException") = some true
  tyC : PySem.W.typeIn K (.ref C) = some (.type "type")
  kC : PySem.W.keepIn K (.ref C) = true
section
open Builtin Builtin.ObjectAttr
variable {prog : Program} {w : World} {A : Around} {R : Result → Shared → Prop} {hp : Heap} {g : Array GenState} {d : Drawn} {t : Nat} {os : OsState} {K : PySem.W.Frag} {name : Str} {tk : Tok} {v : Value} {x C dx : Addr} {fv : Array Value}
theorem taker_none (h : PySem.W.findIn K (.ref C) name = some none) : PySem.W.takerIn K C name = some none := by
  unfold PySem.W.takerIn
  rw [h]
  rfl
/-- the first field -/
theorem xs_new (X : K.In hp) (T : XcC K C) (hx : hp.get? x = some { cls := .ref C, data := .fields fv }) (ha : PySem.W.findIn K (.ref C) name = some none)
    (hq : ∀ h' tk' dx, (∀ b o, b ≠ x → hp.get? b = some o → h'.get? b = some o) → hp.objs.size ≤ dx → dx ≠ x → h'.get? x = some { cls := .ref C, dict := some dx, data := .fields fv } → h'.Ns1 dx (fun y => if y = name then some v else none) → R (.ok (.ret .none)) ⟨h', g, d, tk', os⟩) :
    codeAny (model prog w) A (.call (.builtin "object.__setattr__") ⟨[.ref x, .str name tk, v], []⟩) R ⟨hp, g, d, t, os⟩ := by
  obtain ⟨cd, hcd, hh⟩ := PySem.W.any_some T.hd
  have xs : x ≠ hp.objs.size := Nat.ne_of_lt (Heap.lt_size hx)
  have hcls : PySem.W.Looks (model prog w) hp (classData C) cd := PySem.W.looks_clsIn X hcd
  refine PySem.W.osa_openX F.store_Exception X (ox := { cls := .ref C, data := .fields fv }) (od := none) ⟨hx, rfl, rfl, trivial⟩ T.over (taker_none ha) fun b => ?_
  dsimp only
  obtain ⟨nm, bs, mro, ns, qn, hd', sn, sb, ab, col, del⟩ := cd
  dsimp only at hh
  subst hh
  unfold storeInOwnDict ownDictForStores
  repeat (first | with_reducible refine PySem.HandSPX.store_in_new ?_ ?_ | with_reducible refine wpAny_loadPart_at hx ?_ | with_reducible refine hcls.at ?_ | wp_step)
  · exact ⟨_, #[], _, (Heap.get?_update_ne _ _ _ _ xs.symm).trans (Heap.get?_push_at rfl rfl), rfl, fun e he => absurd he (by simp), fun _ => rfl⟩
  · intro h' tk' n1 same
    have at1 : (hp.push { cls := .type "dict", data := .dict #[] }).get? x = some { cls := .ref C, data := .fields fv } := Heap.get?_push_of_some _ hx
    refine hq h' tk' hp.objs.size (fun b o hb ho => ?_) (Nat.le_refl _) xs.symm ((same.2 x xs).trans (Heap.get?_update_self _ at1 rfl)) n1
    exact ((same.2 b (Nat.ne_of_lt (Heap.lt_size ho))).trans (Heap.get?_update_ne _ _ _ _ hb)).trans (Heap.get?_push_of_some _ ho)
/-- a further field -/
theorem xs_old {m0 : Str → Option Value} {nl : List Str} (X : K.In hp) (T : XcC K C) (hx : hp.get? x = some { cls := .ref C, dict := some dx, data := .fields fv }) (hns : hp.Ns1 dx m0) (hw : Within m0 nl) (hz : nl.length ≤ 1000) (ha : PySem.W.findIn K (.ref C) name = some none)
    (hq : ∀ h' tk', (∀ b o, b ≠ dx → hp.get? b = some o → h'.get? b = some o) → h'.Ns1 dx (fun y => if y = name then some v else m0 y) → R (.ok (.ret .none)) ⟨h', g, d, tk', os⟩) :
    codeAny (model prog w) A (.call (.builtin "object.__setattr__") ⟨[.ref x, .str name tk, v], []⟩) R ⟨hp, g, d, t, os⟩ := by
  obtain ⟨cd, hcd, hh⟩ := PySem.W.any_some T.hd
  obtain ⟨oD, _, _, hoD, _, _⟩ := hns.count hw
  have hcls : PySem.W.Looks (model prog w) hp (classData C) cd := PySem.W.looks_clsIn X hcd
  refine PySem.W.osa_openX F.store_Exception X (ox := { cls := .ref C, dict := some dx, data := .fields fv }) (od := some oD) ⟨hx, rfl, rfl, hoD⟩ T.over (taker_none ha) fun b => ?_
  dsimp only
  obtain ⟨nm, bs, mro, ns, qn, hd', sn, sb, ab, col, del⟩ := cd
  dsimp only at hh
  subst hh
  unfold storeInOwnDict ownDictForStores
  repeat (first | with_reducible refine PySem.OEX.store_in_old hns hw hz ?_ | with_reducible refine wpAny_loadPart_at hx ?_ | with_reducible refine hcls.at ?_ | wp_step)
  intro h' tk' n1 same
  exact hq h' tk' (fun b o hb ho => (same.2 b hb).trans ho) n1
end
section
variable {X : Cx} {pins : List (Addr × Obj)} {σ : St} {H : Hp} {s : Shared} {a C dx : Addr} {f : Str} {y : V} {u : Value} {fs : List (Str × V)} {Q : Unit → Shared → Prop} {E : Value → Shared → Prop} {A : Around}
theorem xt_new (T : XcC X.K C) (I : Inv X pins σ H s) (e : H a = some (exo a C none)) (hno : PySem.W.findIn X.K (.ref C) f = some none) (ry : RelV y u)
    (h : ∀ dx s', H dx = none → dx ≠ a → Inv X pins σ (upd (upd H dx (exd dx [(f, y)])) a (exo a C (some dx))) s' → Q () s') : wpAny (model X.prog X.w) A (setAttr (.ref a) f u) Q E s := by
  obtain ⟨t1, ho⟩ := exo_at I.hok e
  obtain ⟨hp, g, d, t, os⟩ := s
  refine PySem.W.set_plain I.kIn (ox := { cls := .ref C, dict := none, data := .fields #[.ref t1, .none, .none, .none, .bool false, .none] }) (od := none) ⟨ho, rfl, rfl, trivial⟩ T.sa (xs_new I.kIn T ho hno fun h' tk' dx k dn dne hx hn => ?_)
  have free : H dx = none := I.hok.fresh dn
  have nd : ∀ {b : Addr} {o : Obj}, hp.get? b = some o → b ≠ dx := fun q => Nat.ne_of_lt (Nat.lt_of_lt_of_le (Heap.lt_size q) dn)
  have na : ∀ {b : Addr}, H b = none → b ≠ a := fun n z => by
    rw [z, e] at n
    cases n
  have U : Un X.fs [] H (upd (upd H dx (exd dx [(f, y)])) a (exo a C (some dx))) hp h' :=
    ⟨fun b o q n _ _ => k b o (na n) q, fun b o q n _ _ => ⟨o.slots, k b o (na n) q⟩, fun b o q n _ => by rw [upd_ne (na n), upd_ne (nd q), n],
      fun b o q _ => if hb : b = a then ⟨_, hb ▸ hx⟩ else ⟨o, k b o hb q⟩, fun b xs q => by rw [upd_ne (at_ne e q exo_tup), upd_ne (ne_of_none q free), q], fun b o v q => by rw [upd_ne (at_ne e q exo_frz), upd_ne (ne_of_none q free), q],
      fun b ps q => ⟨#[], by rw [upd_ne (at_ne e q exo_tbl), upd_ne (ne_of_none q free), q, Array.append_empty]⟩⟩
  refine h dx _ free dne (I.un (t' := tk') U fun b o q => ?_)
  by_cases hb : b = a
  · subst hb
    rw [upd_same] at q
    cases q
    exact exo_ok hx
  by_cases hd : b = dx
  · subst hd
    rw [upd_ne hb, upd_same] at q
    cases q
    exact exd_ok hn (relO_put (fs := []) ry fun g => True.intro)
  rw [upd_ne hb, upd_ne hd] at q
  have own : ∀ {c : Addr}, H c = some (.own b) → c ≠ a := fun hc => at_ne e hc exo_own
  exact (I.hok b o q).stay (fun c v hc z => k c v (hc.elim (fun hc => hc ▸ hb) own) z) (fun c hc => by rw [upd_ne (own hc), upd_ne (ne_of_none hc free), hc]) fun c xs hc => by rw [upd_ne (at_ne e hc exo_tup), upd_ne (ne_of_none hc free), hc]
theorem xt_old (T : XcC X.K C) (I : Inv X pins σ H s) (e : H a = some (exo a C (some dx))) (ed : H dx = some (exd dx fs)) (hl : fs.length ≤ 900) (hno : PySem.W.findIn X.K (.ref C) f = some none) (ry : RelV y u)
    (h : ∀ s', Inv X pins σ (upd H dx (exd dx ((f, y) :: fs))) s' → Q () s') : wpAny (model X.prog X.w) A (setAttr (.ref a) f u) Q E s := by
  obtain ⟨t1, ho⟩ := exo_at I.hok e
  obtain ⟨mA, hns, rel⟩ := exd_at I.hok ed
  obtain ⟨oD, _, _, hoD, _, _⟩ := hns.count (within_of rel)
  obtain ⟨hp, g, d, t, os⟩ := s
  refine PySem.W.set_plain I.kIn (ox := { cls := .ref C, dict := some dx, data := .fields #[.ref t1, .none, .none, .none, .bool false, .none] }) (od := some oD) ⟨ho, rfl, rfl, hoD⟩ T.sa
    (xs_old I.kIn T ho hns (within_of rel) (by rw [List.length_map]; omega) hno fun h' tk' k hn => h _ (I.write (t' := tk') (x := dx) (e := dx) (o := exd dx ((f, y) :: fs)) (by rw [ed]; trivial) (.inl rfl) k ?_ (exd_ok hn (relO_put ry rel))))
  obtain ⟨o, _, _, z, _⟩ := hn
  exact ⟨o, z⟩
end
/-- self.f = e, self an exception that is being made -/
def tXt (K : PySem.W.Frag) (f : Str) (to te : TE) : TS := fun D σ H => te σ H fun y H1 => to σ H1 fun x H2 => ∃ a C : Addr, x = .ref a ∧ XcC K C ∧ PySem.W.findIn K (.ref C) f = some none ∧
  ((H2 a = some (exo a C none) ∧ ∀ dx, H2 dx = none → dx ≠ a → D.nx σ (upd (upd H2 dx (exd dx [(f, y)])) a (exo a C (some dx)))) ∨
    ∃ (dx : Addr) (fs : List (Str × V)), H2 a = some (exo a C (some dx)) ∧ H2 dx = some (exd dx fs) ∧ fs.length ≤ 900 ∧ D.nx σ (upd H2 dx (exd dx ((f, y) :: fs))))
section
variable {X : Cx} {o e : Expr} {to te : TE} {f : Str} {p' pos : Pos}
theorem ps_xt (ho : PE X o to) (he : PE X e te) (hs : swapsWith e (some (.Attribute o f p')) pos.line X.env = pure false := by rfl) : PS X (.Assign [.Attribute o f p'] e pos) (tXt X.K f to te) := ⟨fun pins s σ H D I h => by
  refine plainObj_wpAny_Assign_Attribute (thn (he.run pins s σ H _ I h) fun v s1 hy => ?_) hs
  obtain ⟨y, H1, I1, r1, q1⟩ := hy
  refine thn (ho.run pins s1 σ H1 _ I1 q1) fun u s2 hy => ?_
  obtain ⟨x, H2, I2, r2, a, C, ex, T, hno, q⟩ := hy
  subst ex
  cases r2
  rcases q with ⟨ea, q⟩ | ⟨dx, fs, ea, ed, hl, q⟩
  · exact xt_new T I2 ea hno r1 fun dx s' n ne J => ⟨σ, _, J, q dx n ne⟩
  · exact xt_old T I2 ea ed hl hno r1 fun s' J => ⟨σ, _, J, q⟩⟩
end
/-- the promise of such an __init__: each parameter is stored under its name -/
def spXi (K : PySem.W.Frag) (fs : List Str) : Sp := fun vs H Q _ => ∃ (a C : Addr) (ws : List V), vs = .ref a :: ws ∧ ws.length = fs.length ∧ XcC K C ∧ (∀ f ∈ fs, PySem.W.findIn K (.ref C) f = some none) ∧ H a = some (exo a C none) ∧
  ∀ dx, H dx = none → dx ≠ a → Q .non (upd (upd H dx (exd dx (fs.zip ws).reverse)) a (exo a C (some dx)))
section
variable {P : Program} {w : World} {K : PySem.W.Frag} {mg : Str → Option Value} {base : Heap}
theorem upd_twice {H : Hp} {a : Addr} {o u : HO} : upd (upd H a o) a u = upd H a u := by
  funext b
  by_cases h : b = a
  · rw [h, upd_same, upd_same]
  · rw [upd_ne h, upd_ne h, upd_ne h]
theorem upd_swap {H : Hp} {a b : Addr} {o u : HO} (h : a ≠ b) : upd (upd H a o) b u = upd (upd H b u) a o := by
  funext c
  by_cases h1 : c = a
  · subst h1; rw [upd_ne h, upd_same, upd_same]
  · by_cases h2 : c = b
    · subst h2; rw [upd_same, upd_ne h1, upd_same]
    · rw [upd_ne h2, upd_ne h1, upd_ne h1, upd_ne h2]
theorem xi_1 {qual f1 p0 p1 : Str} {st : Stmt} {f : Addr} {fd : FuncData} {k : Nat} (F : Fun K "__init__" qual st f fd) (S : FnScope [p0, p1] [p0, p1] (defScope st))
    (hw : ∀ (cdv : Value) (A : Around) (outer : List Env) (s : Shared) (H : Hp) (E : XK), PSs (cxB P w K mg base [p0, p1] qual (defScope st) f cdv A outer s H E) (defBody st) (tXt K f1 (tVar 0) (tVar 1))) :
    FnOk P w K mg base (L2.CX P w) (k + 1) f fd [p0, p1] (spXi K [f1]) :=
  F.okX S (fun vs H Q E h => by
    obtain ⟨a, C, ws, rfl, hl, _⟩ := h
    simp [hl]) fun cdv A outer s H vs Q E hr h => by
    obtain ⟨a, C, ws, rfl, hl, T, hn, ea, q⟩ := h
    obtain ⟨v1, rfl⟩ : ∃ v1, ws = [v1] := List.length_eq_one_iff.mp hl
    exact ⟨_, hw cdv A outer s H E, ⟨v1, rfl, .ref a, rfl, a, C, rfl, T, hn f1 (by simp), .inl ⟨ea, fun dx n ne => q dx n ne⟩⟩⟩
theorem xi_2 {qual f1 f2 p0 p1 p2 : Str} {st : Stmt} {f : Addr} {fd : FuncData} {k : Nat} (F : Fun K "__init__" qual st f fd) (S : FnScope [p0, p1, p2] [p0, p1, p2] (defScope st))
    (hw : ∀ (cdv : Value) (A : Around) (outer : List Env) (s : Shared) (H : Hp) (E : XK), PSs (cxB P w K mg base [p0, p1, p2] qual (defScope st) f cdv A outer s H E) (defBody st) (tSeq (tXt K f1 (tVar 0) (tVar 1)) (tXt K f2 (tVar 0) (tVar 2)))) :
    FnOk P w K mg base (L2.CX P w) (k + 1) f fd [p0, p1, p2] (spXi K [f1, f2]) :=
  F.okX S (fun vs H Q E h => by
    obtain ⟨a, C, ws, rfl, hl, _⟩ := h
    simp [hl]) fun cdv A outer s H vs Q E hr h => by
    obtain ⟨a, C, ws, rfl, hl, T, hn, ea, q⟩ := h
    obtain ⟨v1, v2, rfl⟩ : ∃ v1 v2, ws = [v1, v2] := by
      match ws, hl with
      | [v1, v2], _ => exact ⟨v1, v2, rfl⟩
    refine ⟨_, hw cdv A outer s H E, ⟨v1, rfl, .ref a, rfl, a, C, rfl, T, hn f1 (by simp), .inl ⟨ea, fun dx n ne => ?_⟩⟩⟩
    refine ⟨v2, rfl, .ref a, rfl, a, C, rfl, T, hn f2 (by simp), .inr ⟨dx, [(f1, v1)], upd_same, ?_, by simp, ?_⟩⟩
    · rw [upd_ne ne, upd_same]
    · have e : upd (upd (upd H dx (exd dx [(f1, v1)])) a (exo a C (some dx))) dx (exd dx [(f2, v2), (f1, v1)]) = upd (upd H dx (exd dx [(f2, v2), (f1, v1)])) a (exo a C (some dx)) := by
        rw [upd_swap (Ne.symm ne), upd_twice]
      rw [e]
      exact q dx n ne
end
/-- the own exception of that name and number, with those fields -/
structure XcAt (P : Program) (w : World) (K : PySem.W.Frag) (mg : Str → Option Value) (base : Heap) (D : Wd) (k c : Nat) (x : Str) (fs : List Str) : Prop where
  ex : ∃ (C fI : Addr) (fd : FuncData) (ps : List Str), mg x = some (.ref C) ∧ D.E c C ∧ XcC K C ∧ (∀ f ∈ fs, PySem.W.findIn K (.ref C) f = some none) ∧ PySem.W.findIn K (.ref C) "__init__" = some (some (.ref fI)) ∧ PySem.W.typeIn K (.ref fI) = some (.type "function") ∧ Binds K fd ps [] ∧
    FnOk P w K mg base (L2.CX P w) k fI fd ps (spXi K fs)
theorem XcAt.mono {P : Program} {w : World} {K : PySem.W.Frag} {mg : Str → Option Value} {base : Heap} {D : Wd} {j k c : Nat} {x : Str} {fs : List Str} (h : XcAt P w K mg base D j c x fs) (l : j ≤ k) : XcAt P w K mg base D k c x fs := by
  obtain ⟨C, fI, fd, ps, h1, h2, h3, h4, h5, h6, h7, h8⟩ := h.ex
  exact ⟨C, fI, fd, ps, h1, h2, h3, h4, h5, h6, h7, h8.mono l⟩
/-- the same, as its text stands -/
structure DefXc (K : PySem.W.Frag) (mg : Str → Option Value) (D : Wd) (c : Nat) (x qual : Str) (st : Stmt) (ps fs : List Str) : Prop where
  ex : ∃ (C fI : Addr) (fd : FuncData), mg x = some (.ref C) ∧ D.E c C ∧ XcC K C ∧ (∀ f ∈ fs, PySem.W.findIn K (.ref C) f = some none) ∧ PySem.W.findIn K (.ref C) "__init__" = some (some (.ref fI)) ∧ PySem.W.typeIn K (.ref fI) = some (.type "function") ∧ Fun K "__init__" qual st fI fd ∧ Binds K fd ps []
theorem xc_1 {P : Program} {w : World} {K : PySem.W.Frag} {mg : Str → Option Value} {base : Heap} {D : Wd} {c : Nat} {x qual f1 p0 p1 : Str} {st : Stmt} (d : DefXc K mg D c x qual st [p0, p1] [f1]) (S : FnScope [p0, p1] [p0, p1] (defScope st))
    (hw : ∀ {f : Addr} (cdv : Value) (A : Around) (outer : List Env) (s : Shared) (H : Hp) (E : XK), PSs (cxB P w K mg base [p0, p1] qual (defScope st) f cdv A outer s H E) (defBody st) (tXt K f1 (tVar 0) (tVar 1))) : XcAt P w K mg base D 1 c x [f1] := by
  obtain ⟨C, fI, fd, h1, h2, h3, h4, h5, h6, h7, h8⟩ := d.ex
  exact ⟨C, fI, fd, _, h1, h2, h3, h4, h5, h6, h8, xi_1 h7 S hw⟩
theorem xc_2 {P : Program} {w : World} {K : PySem.W.Frag} {mg : Str → Option Value} {base : Heap} {D : Wd} {c : Nat} {x qual f1 f2 p0 p1 p2 : Str} {st : Stmt} (d : DefXc K mg D c x qual st [p0, p1, p2] [f1, f2]) (S : FnScope [p0, p1, p2] [p0, p1, p2] (defScope st))
    (hw : ∀ {f : Addr} (cdv : Value) (A : Around) (outer : List Env) (s : Shared) (H : Hp) (E : XK), PSs (cxB P w K mg base [p0, p1, p2] qual (defScope st) f cdv A outer s H E) (defBody st) (tSeq (tXt K f1 (tVar 0) (tVar 1)) (tXt K f2 (tVar 0) (tVar 2)))) : XcAt P w K mg base D 1 c x [f1, f2] := by
  obtain ⟨C, fI, fd, h1, h2, h3, h4, h5, h6, h7, h8⟩ := d.ex
  exact ⟨C, fI, fd, _, h1, h2, h3, h4, h5, h6, h8, xi_2 h7 S hw⟩
/-- what making asks -/
def tMkX (C : Addr) (fs : List Str) (ta : TA) : St → Hp → XK → Prop := fun σ H Q => ta σ H fun vs H1 => vs.length = fs.length ∧ ∀ d, H1 d = none → Q (.ref C) (some d) (upd H1 d (.xd (fs.zip vs).reverse))
section
variable {D : Wd} {W : WX} {X : Cx} {e o : Expr} {es : List Expr} {pos p p2 : Pos} {ta : TA} {G G' H H' : Hp} {ms : EM (List AV)}
theorem pmk_x {k : Nat} {C fI : Addr} {fd : FuncData} {ps : List Str} {x : Str} {fs : List Str} (hm : X.mg x = some (.ref C)) (T : XcC X.K C) (hn : ∀ f ∈ fs, PySem.W.findIn X.K (.ref C) f = some none) (iC : PySem.W.findIn X.K (.ref C) "__init__" = some (some (.ref fI))) (tI : PySem.W.typeIn X.K (.ref fI) = some (.type "function"))
    (hb : Binds X.K fd ps []) (F1 : FnOk X.prog X.w X.K X.mg X.base (L2.CX X.prog X.w) k fI fd ps (spXi X.K fs)) (hfs : fs.length ≤ 900) (hr : Room (k + 1) X.A) (hg : Gl X x) (ha : PA X (e :: es) ta) (hdb : (x == ("__debug__" : Str)) = false)
    (he : starEach (e :: es) X.env = (false, eval e X.env) :: starEach es X.env) (hpl : (backTo pos (starEach es X.env)).any (·.1) = false) : PMk X (.Call (.Name x p) (e :: es) [] pos) (tMkX C fs ta) := by
  intro pins s σ H Q I h
  obtain ⟨nm, N, q, bs, bm, hdct, sn, sub, ab, col, dd, k0, k1, k2, k3, k5, hC, hT⟩ := PySem.W.excInit_of I.kIn T.init
  refine wpAny_Call_Name_kw (ld_glob I hg hm (PySem.W.callWith_K (h₀ := X.base) I.ok.mod.kin T.kC (thn (ha.run pos pins s σ H _ I h) fun us s1 hy => ?_) he hpl) hdb)
  obtain ⟨vs, H1, I1, r1, hz, q1⟩ := hy
  refine ⟨I1.kIn, ?_⟩
  clear hC hT
  obtain ⟨nm, N, q, bs, bm, hdct, sn, sub, ab, col, dd, k0, k1, k2, k3, k5, hC, hT⟩ := PySem.W.excInit_of I1.kIn T.init
  show wpAny _ _ (call (.ref C) us) _ _ _
  obtain ⟨hp, g, dr, tk, os⟩ := s1
  have lt : hp.objs.size ≤ hp.objs.size + 1 := Nat.le_succ _
  have free : H1 (hp.objs.size + 1) = none := I1.hok.fresh lt
  have old : ∀ b o, hp.get? b = some o → ((hp.push (PySem.W.kdv_tup us)).push (PySem.HandSPX.excO C hp.objs.size)).get? b = some o := fun b o z => Heap.get?_push_of_some _ (Heap.get?_push_of_some _ z)
  have hget : ((hp.push (PySem.W.kdv_tup us)).push (PySem.HandSPX.excO C hp.objs.size)).get? (hp.objs.size + 1) = some (PySem.HandSPX.excO C hp.objs.size) := by heap_get
  have I2 : Inv X pins σ (upd H1 (hp.objs.size + 1) (exo (hp.objs.size + 1) C none)) ⟨(hp.push (PySem.W.kdv_tup us)).push (PySem.HandSPX.excO C hp.objs.size), g, dr, tk, os⟩ := I1.laid (t' := tk) old lt (exo_ok hget)
  have sp : spXi X.K fs (V.ref (hp.objs.size + 1) :: vs) (upd H1 (hp.objs.size + 1) (exo (hp.objs.size + 1) C none)) (fun v H2 => v = .non ∧ ∃ d : Addr, H2 (hp.objs.size + 1) = some (exo (hp.objs.size + 1) C (some d)) ∧ H2 d = some (exd d (fs.zip vs).reverse) ∧ H1 d = none ∧ Q (.ref C) (some d) (upd (L2.del H2 (hp.objs.size + 1)) d (.xd (fs.zip vs).reverse))) (fun _ _ _ => False) := by
    refine ⟨_, C, vs, rfl, hz, T, hn, upd_same, fun dx n ne => ⟨rfl, dx, upd_same, ?_, ?_, ?_⟩⟩
    · rw [upd_ne ne, upd_same]
    · rw [upd_ne ne] at n; exact n
    · have n1 : H1 dx = none := by rw [upd_ne ne] at n; exact n
      have eq : upd (L2.del (upd (upd (upd H1 (hp.objs.size + 1) (exo (hp.objs.size + 1) C none)) dx (exd dx (fs.zip vs).reverse)) (hp.objs.size + 1) (exo (hp.objs.size + 1) C (some dx))) (hp.objs.size + 1)) dx (.xd (fs.zip vs).reverse) = upd H1 dx (.xd (fs.zip vs).reverse) := by
        funext b
        by_cases h1 : b = dx
        · rw [h1, upd_same, upd_same]
        · rw [upd_ne h1, upd_ne h1]
          by_cases h2 : b = hp.objs.size + 1
          · rw [h2, L2.del_same, free]
          · rw [L2.del_ne h2, upd_ne h2, upd_ne h1, upd_ne h2]
      rw [eq]
      exact q1 dx n1
  have rv : Vals (V.ref (hp.objs.size + 1) :: vs) (Value.ref (hp.objs.size + 1) :: us) := .cons rfl r1
  have hl : (Value.ref (hp.objs.size + 1) :: us ++ []).length = ps.length := by
    rw [List.append_nil, ← rv.length]
    exact F1.len _ _ _ _ sp
  have bt := hb _ (Value.ref (hp.objs.size + 1) :: us) I2.kIn hl
  rw [List.append_nil] at bt
  have hus : us.length ≤ sizeLine := by
    rw [← Paired.length r1, hz, sizeLine_eq]
    omega
  refine wpAny_call (PySem.HandSPX.call_own F.excBase_Exception hT hC (PySem.W.looks_findIn I1.kIn iC) (fun self => PySem.W.bind_fn I1.kIn self tI) hus
    (codeAny_mono (F1.run _ X.stack _ _ ⟨Value.ref (hp.objs.size + 1) :: us, []⟩ _ _ _ (fun _ _ _ => False) (hr.make C us []) (I2.env0.make C us []) bt rv sp) fun r s' hq => ?_))
  cases r with
  | error er =>
    obtain ⟨_, _, _, _, _, _, _, _, _, _, _, _, z⟩ := hq
    exact z.elim
  | ok fl =>
    cases fl with
    | ret u =>
      obtain ⟨v, H2, os2, bare2, un2, hok2, rv2, ev, d, ea, ed, hd1, q2⟩ := hq
      subst ev
      obtain ⟨h2, g2, d2, t2, os'⟩ := s'
      exact ⟨rv2, mk_end (raises_own T.exC T.tyC) I1 lt old un2 hok2 os2 bare2 ea ed hd1 q2⟩
    | next => exact False.elim hq
    | brk => exact False.elim hq
    | cont => exact False.elim hq
theorem repf_app : ∀ {a b : List (Str × PV)} {va vb : List (Str × V)}, RepF D G a va → RepF D G b vb → RepF D G (a ++ b) (va ++ vb)
  | [], _, _, _, h, k => by rw [show _ = [] from h]; exact k
  | (f, x) :: a, b, _, vb, h, k => by
    obtain ⟨v, r, rfl, h1, h2⟩ := h
    exact ⟨v, r ++ vb, rfl, h1, repf_app h2 k⟩
theorem repf_rev : ∀ {a : List (Str × PV)} {va : List (Str × V)}, RepF D G a va → RepF D G a.reverse va.reverse
  | [], _, h => by rw [show _ = [] from h]; rfl
  | (f, x) :: a, _, h => by
    obtain ⟨v, r, rfl, h1, h2⟩ := h
    rw [List.reverse_cons, List.reverse_cons]
    exact repf_app (repf_rev h2) ⟨v, [], rfl, h1, rfl⟩
theorem repf_zip : ∀ {fs : List Str} {xs : List PV} {vs : List V}, Reps D G xs vs → RepF D G (fs.zip xs) (fs.zip vs)
  | [], _, _, _ => by simp [RepF]
  | f :: fs, [], _, h => by rw [show _ = [] from h]; simp [RepF]
  | f :: fs, x :: xs, _, h => by
    obtain ⟨v, r, rfl, h1, h2⟩ := h
    exact ⟨v, _, rfl, h1, repf_zip h2⟩
def raiseM (c : Nat) (fs : List Str) (ms : EM (List AV)) : SM := fun ρ => (ms ρ).to fun as ρ => match vals as with
  | some xs => if xs.length = fs.length then .exc ⟨c, (fs.zip xs).reverse⟩ ρ else .stuck
  | none => .stuck
theorem s_raise {k c : Nat} {x : Str} {fs : List Str} (F : XcAt X.prog X.w X.K X.mg X.base D k c x fs) (hfs : fs.length ≤ 900) (hr : Room (k + 1) X.A) (tk : Takes X W) (ha : RA D W X (e :: es) ms) (hc : X.calm = true := by rfl) (hg : Gl X x := by rfl) (hdb : (x == ("__debug__" : Str)) = false := by decide)
    (he : starEach (e :: es) X.env = (false, eval e X.env) :: starEach es X.env := by rfl) (hpl : (backTo pos (starEach es X.env)).any (·.1) = false := by rfl) : RS D W X (.Raise (some (.Call (.Name x p) (e :: es) [] pos)) none p2) (raiseM c fs ms) := by
  obtain ⟨C, fI, fd, ps, h1, h2, h3, h4, h5, h6, h7, h8⟩ := F.ex
  refine (ps_raise hc tk (pmk_x h1 h3 h4 h5 h6 h7 h8 hfs hr hg ha hdb he hpl)).imp fun E σ H ⟨G, ρ, A, k⟩ => ⟨G, ρ, A, (Ks.to k).mono fun as ρ1 G1 H1 n1 k1 vs rv => ?_⟩
  split at k1
  · rename_i xs ex
    split at k1
    · rename_i hl
      have rs := vals_rep rv ex
      refine ⟨rs.length.trans hl, fun d hd => ?_⟩
      have gr := Grow.new (o := .xd (fs.zip vs).reverse) n1.abs.le hd
      exact k1 _ _ σ _ _ (n1.abs.grow gr) ⟨C, d, _, rfl, h2, rfl, upd_same, (repf_rev (repf_zip rs)).mono gr.leg⟩
    · exact False.elim k1
  · exact False.elim k1
end
end TR

set_option Elab.async false
set_option linter.all false
set_option maxRecDepth 100000
/-! TRZE: try .. except of own exceptions. -/
namespace TR
open PySem PySem.Spec L2
set_option autoImplicit false
/-- the same world with that exception in hand -/
abbrev Wd.hold (D : Wd) (z : Option (Addr × Value × Option Addr)) : Wd := { D with xa := z }
mutual
theorem rep_hold {D : Wd} {G : Hp} {z : Option (Addr × Value × Option Addr)} : ∀ {x : PV} {v : V}, Rep D G x v ↔ Rep (D.hold z) G x v
  | .non, _ => Iff.rfl
  | .bl _, _ => Iff.rfl
  | .int _, _ => Iff.rfl
  | .str _, _ => Iff.rfl
  | .lst xs, _ => ⟨fun ⟨a, vs, e, q, r⟩ => ⟨a, vs, e, q, reps_hold.mp r⟩, fun ⟨a, vs, e, q, r⟩ => ⟨a, vs, e, q, reps_hold.mpr r⟩⟩
  | .tup xs, _ => ⟨fun ⟨a, vs, e, q, r⟩ => ⟨a, vs, e, q, reps_hold.mp r⟩, fun ⟨a, vs, e, q, r⟩ => ⟨a, vs, e, q, reps_hold.mpr r⟩⟩
  | .dct xs, _ => ⟨fun ⟨a, vs, e, q, r⟩ => ⟨a, vs, e, q, repd_hold.mp r⟩, fun ⟨a, vs, e, q, r⟩ => ⟨a, vs, e, q, repd_hold.mpr r⟩⟩
  | .obj c xs, _ => ⟨fun ⟨a, C, dx, ws, e, q, t, r⟩ => ⟨a, C, dx, ws, e, q, t, repf_hold.mp r⟩, fun ⟨a, C, dx, ws, e, q, t, r⟩ => ⟨a, C, dx, ws, e, q, t, repf_hold.mpr r⟩⟩
theorem reps_hold {D : Wd} {G : Hp} {z : Option (Addr × Value × Option Addr)} : ∀ {xs : List PV} {vs : List V}, Reps D G xs vs ↔ Reps (D.hold z) G xs vs
  | [], _ => Iff.rfl
  | x :: xs, _ => ⟨fun ⟨v, r, e, h1, h2⟩ => ⟨v, r, e, rep_hold.mp h1, reps_hold.mp h2⟩, fun ⟨v, r, e, h1, h2⟩ => ⟨v, r, e, rep_hold.mpr h1, reps_hold.mpr h2⟩⟩
theorem repd_hold {D : Wd} {G : Hp} {z : Option (Addr × Value × Option Addr)} : ∀ {xs : List (Key × PV)} {vs : List (Key × V)}, RepD D G xs vs ↔ RepD (D.hold z) G xs vs
  | [], _ => Iff.rfl
  | (k, x) :: xs, _ => ⟨fun ⟨v, r, e, h1, h2⟩ => ⟨v, r, e, rep_hold.mp h1, repd_hold.mp h2⟩, fun ⟨v, r, e, h1, h2⟩ => ⟨v, r, e, rep_hold.mpr h1, repd_hold.mpr h2⟩⟩
theorem repf_hold {D : Wd} {G : Hp} {z : Option (Addr × Value × Option Addr)} : ∀ {xs : List (Str × PV)} {vs : List (Str × V)}, RepF D G xs vs ↔ RepF (D.hold z) G xs vs
  | [], _ => Iff.rfl
  | (k, x) :: xs, _ => ⟨fun ⟨v, r, e, h1, h2⟩ => ⟨v, r, e, rep_hold.mp h1, repf_hold.mp h2⟩, fun ⟨v, r, e, h1, h2⟩ => ⟨v, r, e, rep_hold.mpr h1, repf_hold.mpr h2⟩⟩
end
section
variable {D : Wd} {W : WX} {X : Cx} {G G1 G2 H H1 H2 : Hp} {σ σ1 σ2 : St} {ρ ρ1 ρ2 : Ev} {z : Option (Addr × Value × Option Addr)}
theorem mrep_hold {a : Addr} {m : MO} : MRep D G H a m ↔ MRep (D.hold z) G H a m := by
  cases m with
  | lst xs => exact ⟨fun ⟨vs, e, r⟩ => ⟨vs, e, reps_hold.mp r⟩, fun ⟨vs, e, r⟩ => ⟨vs, e, reps_hold.mpr r⟩⟩
  | dct xs => exact ⟨fun ⟨vs, e, r⟩ => ⟨vs, e, repd_hold.mp r⟩, fun ⟨vs, e, r⟩ => ⟨vs, e, repd_hold.mpr r⟩⟩
  | obj c xs => exact ⟨fun ⟨C, dx, vs, e, t, r⟩ => ⟨C, dx, vs, e, t, repf_hold.mp r⟩, fun ⟨C, dx, vs, e, t, r⟩ => ⟨C, dx, vs, e, t, repf_hold.mpr r⟩⟩
theorem erep_hold {c : Value} {d : Option Addr} {e : Ex} : ERep D G c d e ↔ ERep (D.hold z) G c d e :=
  ⟨fun ⟨C, dx, ws, h1, h2, h3, h4, h5⟩ => ⟨C, dx, ws, h1, h2, h3, h4, repf_hold.mp h5⟩, fun ⟨C, dx, ws, h1, h2, h3, h4, h5⟩ => ⟨C, dx, ws, h1, h2, h3, h4, repf_hold.mpr h5⟩⟩
/-- no slot holds an exception -/
def noEx : Slot → Bool
  | .exn _ => false
  | _ => true
def clean (ρ : Ev) : Bool := ρ.all noEx
/-- a slot that is not an own object -/
def noOwn (ρ : Ev) (i : Nat) : Bool := match ρ[i]? with
  | some (.own _ _) => false
  | some (.exn _) => false
  | some _ => true
  | none => false
/-- into the suite -/
theorem abs_in {i a : Nat} {c : Value} {d : Option Addr} {e : Ex} (A : Abs D G H σ ρ) (hc : clean ρ = true) (hi : noOwn ρ i = true) (r : ERep D G c d e) :
    Abs (D.hold (some (a, c, d))) G H (σ.set i (some (.ref a))) (ρ.set i (.exn e)) := by
  have own : ∀ (j : Nat) (b : Bool) (m : MO), (ρ.set i (.exn e))[j]? = some (.own b m) → j ≠ i ∧ ρ[j]? = some (.own b m) := fun j b m h => by
    rcases get_set h with ⟨_, z, _⟩ | z
    · cases z
    · exact z
  have ne : ∀ {j : Nat}, j ≠ i → (σ.set i (some (.ref a)))[j]? = σ[j]? := fun h => List.getElem?_set_ne (Ne.symm h)
  refine ⟨A.le, by rw [List.length_set, List.length_set]; exact A.len, fun j s h => ?_, fun j k b m b' m' x h1 h2 h3 h4 => ?_⟩
  · rcases get_set h with ⟨rfl, rfl, hl⟩ | ⟨hj, h⟩
    · exact ⟨a, c, d, rfl, List.getElem?_set_self (by rw [A.len]; exact hl), erep_hold.mp r⟩
    · rw [ne hj]
      have q := A.sl j s h
      cases s with
      | non => trivial
      | val x => obtain ⟨v, e1, r1⟩ := q; exact ⟨v, e1, rep_hold.mp r1⟩
      | own b m => obtain ⟨x, e1, g1, r1⟩ := q; exact ⟨x, e1, g1, mrep_hold.mp r1⟩
      | exn x =>
        have := List.all_eq_true.mp hc _ (List.mem_of_getElem? h)
        cases this
  · obtain ⟨e1, f1⟩ := own j b m h1
    obtain ⟨e2, f2⟩ := own k b' m' h2
    rw [ne e1] at h3
    rw [ne e2] at h4
    exact A.inj j k b m b' m' x f1 f2 h3 h4
/-- out of the suite -/
theorem nx_out {i a : Nat} {c : Value} {d : Option Addr} {e : Ex} (A : Abs D G1 H1 σ1 ρ1) (hi : noOwn ρ1 i = true) (hc : clean (ρ2.set i .non) = true)
    (n : Nx (D.hold (some (a, c, d))) G1 H1 (σ1.set i (some (.ref a))) (ρ1.set i (.exn e)) G2 H2 σ2 ρ2) : Nx D G1 H1 σ1 ρ1 G2 H2 (σ2.set i none) (ρ2.set i .non) := by
  have own2 : ∀ {j : Nat} {b : Bool} {m : MO}, (ρ2.set i .non)[j]? = some (.own b m) → j ≠ i ∧ ρ2[j]? = some (.own b m) := fun {j b m} h => by
    rcases get_set h with ⟨_, z, _⟩ | z
    · cases z
    · exact z
  have own1 : ∀ {j : Nat} {b : Bool} {m : MO}, (ρ1.set i (.exn e))[j]? = some (.own b m) → j ≠ i ∧ ρ1[j]? = some (.own b m) := fun {j b m} h => by
    rcases get_set h with ⟨_, z, _⟩ | z
    · cases z
    · exact z
  have ni : ∀ {j : Nat} {b : Bool} {m : MO}, ρ1[j]? = some (.own b m) → j ≠ i := fun {j b m} h z => by
    subst z
    unfold noOwn at hi
    rw [h] at hi
    cases hi
  have ne2 : ∀ {j : Nat}, j ≠ i → (σ2.set i none)[j]? = σ2[j]? := fun h => List.getElem?_set_ne (Ne.symm h)
  have ne1 : ∀ {j : Nat}, j ≠ i → (σ1.set i (some (V.ref a)))[j]? = σ1[j]? := fun h => List.getElem?_set_ne (Ne.symm h)
  have neρ : ∀ {j : Nat} {s : Slot}, j ≠ i → (ρ1.set i s)[j]? = ρ1[j]? := fun h => List.getElem?_set_ne (Ne.symm h)
  have ow1 : ∀ {b : Addr}, Ow (σ1.set i (some (.ref a))) (ρ1.set i (.exn e)) b → Ow σ1 ρ1 b := fun {b} ⟨j, f, m, h1, h2⟩ => by
    obtain ⟨hj, h1⟩ := own1 h1
    rw [ne1 hj] at h2
    exact ⟨j, f, m, h1, h2⟩
  have owF1 : ∀ {b : Addr}, OwF (σ1.set i (some (.ref a))) (ρ1.set i (.exn e)) b → OwF σ1 ρ1 b := fun {b} ⟨j, m, h1, h2⟩ => by
    obtain ⟨hj, h1⟩ := own1 h1
    rw [ne1 hj] at h2
    exact ⟨j, m, h1, h2⟩
  refine ⟨⟨n.abs.le, by rw [List.length_set, List.length_set]; exact n.abs.len, fun j s h => ?_, fun j k b m b' m' x h1 h2 h3 h4 => ?_⟩, n.g, fun b o h no => n.k b o h fun w => no (ow1 w), n.d, fun b u h => ?_, fun b h => ?_, fun j m h => ?_, fun j m h => ?_⟩
  · have hs := List.all_eq_true.mp hc _ (List.mem_of_getElem? h)
    rcases get_set h with ⟨rfl, rfl, hl⟩ | ⟨hj, h⟩
    · trivial
    · rw [ne2 hj]
      have q := n.abs.sl j s h
      cases s with
      | non => trivial
      | val x => obtain ⟨v, e1, r1⟩ := q; exact ⟨v, e1, rep_hold.mpr r1⟩
      | own b m => obtain ⟨x, e1, g1, r1⟩ := q; exact ⟨x, e1, g1, mrep_hold.mpr r1⟩
      | exn x => cases hs
  · obtain ⟨e1, f1⟩ := own2 h1
    obtain ⟨e2, f2⟩ := own2 h2
    rw [ne2 e1] at h3
    rw [ne2 e2] at h4
    exact n.abs.inj j k b m b' m' x f1 f2 h3 h4
  · rcases n.f b u h with w | w | w
    · exact .inl w
    · exact .inr (.inl w)
    · exact .inr (.inr (owF1 w))
  · obtain ⟨j, f, m, h1, h2⟩ := h
    obtain ⟨hj, h1⟩ := own2 h1
    rw [ne2 hj] at h2
    rcases n.w b ⟨j, f, m, h1, h2⟩ with w | w
    · exact .inl (ow1 w)
    · exact .inr w
  · have hj := ni h
    obtain ⟨⟨m', h'⟩, h2⟩ := n.br j m (by rw [neρ hj]; exact h)
    exact ⟨⟨m', by rw [List.getElem?_set_ne (Ne.symm hj)]; exact h'⟩, by rw [ne2 hj, h2, ne1 hj]⟩
  · obtain ⟨hj, h⟩ := own2 h
    obtain ⟨m', h'⟩ := n.nb j m h
    exact ⟨m', (own1 h').2⟩
/-- behind the suite -/
def endX (i : Nat) : SO → SO
  | .nxt ρ => if clean (ρ.set i .non) then .nxt (ρ.set i .non) else .stuck
  | .brk ρ => if clean (ρ.set i .non) then .brk (ρ.set i .non) else .stuck
  | .cnt ρ => if clean (ρ.set i .non) then .cnt (ρ.set i .non) else .stuck
  | .ret r ρ => if clean (ρ.set i .non) then .ret r (ρ.set i .non) else .stuck
  | _ => .stuck
/-- which of the own exceptions a clause catches -/
structure CatchAt (D : Wd) (mg : Str → Option Value) (x : Str) (tab : List Nat) : Prop where
  ex : ∃ C : Addr, mg x = some (.ref C) ∧ ∀ c C', D.E c C' → PySem.W.exmOne D.K (.ref C') (.ref C) = some (decide (c ∈ tab))
def tryAs (mb : SM) (tab : List Nat) (i : Nat) (ms : SM) : SM := fun ρ => match mb ρ with
  | .exc e ρ1 => if e.c ∈ tab then (if clean ρ1 && noOwn ρ1 i then endX i (ms (ρ1.set i (.exn e))) else .stuck) else .exc e ρ1
  | o => o
abbrev WF : WX := fun _ _ _ _ => False
theorem ks_out {i a : Nat} {c : Value} {d : Option Addr} {e : Ex} {o : SO} {E : Ends} (A : Abs D G1 H1 σ1 ρ1) (hi : noOwn ρ1 i = true) (n1 : Nx D G H σ ρ G1 H1 σ1 ρ1) (k : Ks D W (endX i o) G H σ ρ E) :
    Ks (D.hold (some (a, c, d))) WF o G1 H1 (σ1.set i (some (.ref a))) (ρ1.set i (.exn e)) { nx := fun σ' H' => E.nx (σ'.set i none) H', rt := E.rt, bk := fun σ' H' => E.bk (σ'.set i none) H', ct := fun σ' H' => E.ct (σ'.set i none) H' } := by
  cases o with
  | nxt ρ2 =>
    by_cases hc : clean (ρ2.set i .non) = true
    · rw [show endX i (.nxt ρ2) = if clean (ρ2.set i .non) then .nxt (ρ2.set i .non) else .stuck from rfl, if_pos hc] at k
      exact fun G2 H2 σ2 n => k G2 H2 _ (n1.trans (nx_out A hi hc n))
    · rw [show endX i (.nxt ρ2) = if clean (ρ2.set i .non) then .nxt (ρ2.set i .non) else .stuck from rfl, if_neg hc] at k
      exact False.elim k
  | brk ρ2 =>
    by_cases hc : clean (ρ2.set i .non) = true
    · rw [show endX i (.brk ρ2) = if clean (ρ2.set i .non) then .brk (ρ2.set i .non) else .stuck from rfl, if_pos hc] at k
      exact fun G2 H2 σ2 n => k G2 H2 _ (n1.trans (nx_out A hi hc n))
    · rw [show endX i (.brk ρ2) = if clean (ρ2.set i .non) then .brk (ρ2.set i .non) else .stuck from rfl, if_neg hc] at k
      exact False.elim k
  | cnt ρ2 =>
    by_cases hc : clean (ρ2.set i .non) = true
    · rw [show endX i (.cnt ρ2) = if clean (ρ2.set i .non) then .cnt (ρ2.set i .non) else .stuck from rfl, if_pos hc] at k
      exact fun G2 H2 σ2 n => k G2 H2 _ (n1.trans (nx_out A hi hc n))
    · rw [show endX i (.cnt ρ2) = if clean (ρ2.set i .non) then .cnt (ρ2.set i .non) else .stuck from rfl, if_neg hc] at k
      exact False.elim k
  | ret r ρ2 =>
    by_cases hc : clean (ρ2.set i .non) = true
    · rw [show endX i (.ret r ρ2) = if clean (ρ2.set i .non) then .ret r (ρ2.set i .non) else .stuck from rfl, if_pos hc] at k
      intro G2 H2 σ2 v n rr
      refine k G2 H2 _ v (n1.trans (nx_out A hi hc n)) (RetR.back n1 ?_)
      cases r with
      | v x => exact rep_hold.mpr rr
      | o m =>
        obtain ⟨b, e1, g1, f1, r1⟩ := rr
        refine ⟨b, e1, g1, ?_, mrep_hold.mpr r1⟩
        rcases f1 with f1 | ⟨j, m', h1, h2⟩
        · exact .inl f1
        · rcases get_set h1 with ⟨_, z, _⟩ | ⟨hj, h1⟩
          · cases z
          · rw [List.getElem?_set_ne (Ne.symm hj)] at h2
            exact .inr ⟨j, m', h1, h2⟩
    · rw [show endX i (.ret r ρ2) = if clean (ρ2.set i .non) then .ret r (ρ2.set i .non) else .stuck from rfl, if_neg hc] at k
      exact False.elim k
  | exc ex ρ2 => exact False.elim k
  | stuck => exact False.elim k
theorem s_tryAs {i : Nat} {x n : Str} {tab : List Nat} {body suite : List Stmt} {b0 : Stmt} {np pos pos' : Pos} {mb ms : SM} (hc : CatchAt D X.mg x tab) (hK : D.K = X.K) (tk : Takes X W)
    (hb : ∀ (W' : WX) (pn : List (Addr × Obj)) (xe : Value → Shared → Prop), Takes (X.tr pn xe) W' → PassesOwn (model X.prog X.w) X.A X.env xe → RSs D W' (X.tr pn xe) body mb)
    (hsu : ∀ (a : Addr) (oe : Obj) (cls : Value) (d : Option Addr) (pn : List (Addr × Obj)), Zc cls d oe → (∃ vs, oe.data = .fields vs) → RSs (D.hold (some (a, cls, d))) WF (X.suite a ((a, oe) :: pn)) (b0 :: suite) ms)
    (hN : X.N.Nodup) (hi : X.N[i]? = some n) (hs : X.stack = X.env :: X.outer := by rfl) (hf : X.env.frame = some X.env.locals := by rfl) (hln : X.env.kindOf n = some .local := by rfl) (hg : Gl X x := by rfl) (hdb : (x == ("__debug__" : Str)) = false := by decide) :
    RS D W X (.Try body [.ExceptHandler (some (.Name x np)) (some n) (b0 :: suite) pos'] [] [] pos) (tryAs mb tab i ms) := by
  obtain ⟨C, hm, hx⟩ := hc.ex
  refine (ps_try_as (tb := fun W => tS D W mb) (ts := fun a cls d => tS (D.hold (some (a, cls, d))) WF ms) hs hf hN hi hln ⟨hg, hdb, .inl hm⟩ tk hb hsu).imp fun E σ H ⟨G, ρ, A, k⟩ => ⟨G, ρ, A, ?_⟩
  unfold tryAs at k
  cases q : mb ρ with
  | nxt ρ1 => rw [q] at k; exact k
  | brk ρ1 => rw [q] at k; exact k
  | cnt ρ1 => rw [q] at k; exact k
  | ret r ρ1 => rw [q] at k; exact k
  | stuck => rw [q] at k; exact k
  | exc e ρ1 =>
    rw [q] at k
    intro G1 H1 σ1 c d n1 er
    obtain ⟨C', dx, ws, rfl, hE, rfl, hr, rf⟩ := er
    refine ⟨_, hK ▸ hx e.c C' hE, fun ht a ha => ?_, fun hf => ?_⟩
    · have ht' : e.c ∈ tab := of_decide_eq_true ht
      dsimp only at k
      rw [if_pos ht'] at k
      split at k
      · rename_i hcl
        obtain ⟨hcl, hno⟩ := Bool.and_eq_true_iff.mp hcl
        exact ⟨G1, ρ1.set i (.exn e), abs_in n1.abs hcl hno ⟨C', dx, ws, rfl, hE, rfl, hr, rf⟩, ks_out n1.abs hno n1 k⟩
      · exact False.elim k
    · have ht' : ¬ e.c ∈ tab := of_decide_eq_false hf
      dsimp only at k
      rw [if_neg ht'] at k
      exact k G1 H1 σ1 _ _ n1 ⟨C', dx, ws, rfl, hE, rfl, hr, rf⟩
/-- a clause without a name -/
def noXs : SO → SO
  | .exc _ _ => .stuck
  | o => o
def tryOn (mb : SM) (tab : List Nat) (ms : SM) : SM := fun ρ => match mb ρ with
  | .exc e ρ1 => if e.c ∈ tab then noXs (ms ρ1) else .exc e ρ1
  | o => o
theorem s_tryOn {x : Str} {tab : List Nat} {body suite : List Stmt} {b0 : Stmt} {np pos pos' : Pos} {mb ms : SM} (hc : CatchAt D X.mg x tab) (hK : D.K = X.K) (tk : Takes X W)
    (hb : ∀ (W' : WX) (pn : List (Addr × Obj)) (xe : Value → Shared → Prop), Takes (X.tr pn xe) W' → PassesOwn (model X.prog X.w) X.A X.env xe → RSs D W' (X.tr pn xe) body mb)
    (hsu : ∀ (a : Addr) (oe : Obj) (pn : List (Addr × Obj)), RSs D WF (X.suite a ((a, oe) :: pn)) (b0 :: suite) ms)
    (hs : X.stack = X.env :: X.outer := by rfl) (hf : X.env.frame = some X.env.locals := by rfl) (hg : Gl X x := by rfl) (hdb : (x == ("__debug__" : Str)) = false := by decide) :
    RS D W X (.Try body [.ExceptHandler (some (.Name x np)) none (b0 :: suite) pos'] [] [] pos) (tryOn mb tab ms) := by
  obtain ⟨C, hm, hx⟩ := hc.ex
  refine (ps_try_only (tb := fun W => tS D W mb) (ts := fun a cls d => tS D WF ms) hs hf ⟨hg, hdb, .inl hm⟩ tk hb fun a oe cls d pn _ _ => hsu a oe pn).imp fun E σ H ⟨G, ρ, A, k⟩ => ⟨G, ρ, A, ?_⟩
  unfold tryOn at k
  cases q : mb ρ with
  | nxt ρ1 => rw [q] at k; exact k
  | brk ρ1 => rw [q] at k; exact k
  | cnt ρ1 => rw [q] at k; exact k
  | ret r ρ1 => rw [q] at k; exact k
  | stuck => rw [q] at k; exact k
  | exc e ρ1 =>
    rw [q] at k
    intro G1 H1 σ1 c d n1 er
    obtain ⟨C', dx, ws, rfl, hE, rfl, hr, rf⟩ := er
    refine ⟨_, hK ▸ hx e.c C' hE, fun ht a ha => ⟨G1, ρ1, n1.abs, ?_⟩, fun hf => ?_⟩
    · dsimp only at k
      rw [if_pos (of_decide_eq_true ht)] at k
      cases q2 : ms ρ1 with
      | exc e2 ρ2 => rw [q2] at k; exact False.elim k
      | stuck => rw [q2] at k; exact False.elim k
      | nxt ρ2 => rw [q2] at k; exact Ks.from n1 k
      | brk ρ2 => rw [q2] at k; exact Ks.from n1 k
      | cnt ρ2 => rw [q2] at k; exact Ks.from n1 k
      | ret r ρ2 => rw [q2] at k; exact Ks.from n1 k
    · dsimp only at k
      rw [if_neg (of_decide_eq_false hf)] at k
      exact k G1 H1 σ1 _ _ n1 ⟨C', dx, ws, rfl, hE, rfl, hr, rf⟩
/-- what an own exception class must have for its instances' fields to be read -/
structure XfAt (D : Wd) (f : Str) : Prop where
  h : ∀ c C, D.E c C → XfC D.K C ∧ PySem.W.findIn D.K (.ref C) f = some none
/-- err.f -/
def xfld (i : Nat) (f : Str) : EM PV := fun ρ => match ρ[i]? with
  | some (.exn e) => lift (e.fs.lookup f) ρ
  | _ => .stuck
theorem re_xf {i a : Nat} {f : Str} {oe : Obj} {cls : Value} {d : Option Addr} {pn : List (Addr × Obj)} {e : Expr} {pos : Pos} (hf : XfAt D f) (hK : D.K = X.K) (hz : Zc cls d oe) (hd : ∃ vs, oe.data = .fields vs) (he : PE (X.suite a ((a, oe) :: pn)) e (tVar i))
    (hb : attributeBase e f X.env (eval e X.env) = eval e X.env := by rfl) : RE (D.hold (some (a, cls, d))) WF (X.suite a ((a, oe) :: pn)) (.Attribute e f pos) (xfld i f) := ⟨fun pins s σ H Q I ⟨G, ρ, A, k⟩ => by
  unfold xfld at k
  split at k
  · rename_i ex e0
    obtain ⟨y, e1, g⟩ := Kg.lift A k
    obtain ⟨a', c', d', ea, e2, C, dx, ws, ec, hE, ed, hr, rf⟩ := A.sl i _ e0
    have ea' : a = a' ∧ cls = c' ∧ d = d' := by
      have := Option.some.inj ea
      exact ⟨(Prod.mk.inj this).1, (Prod.mk.inj (Prod.mk.inj this).2).1, (Prod.mk.inj (Prod.mk.inj this).2).2⟩
    obtain ⟨rfl, rfl, rfl⟩ := ea'
    subst ec
    subst ed
    obtain ⟨v, e3, rv⟩ := repf_some rf e1
    obtain ⟨T, hno⟩ := hf.h ex.c C hE
    exact (pe_xf (X := X) (pos := pos) (hK ▸ T) (hK ▸ hno) hz hd he hb).run pins s σ H Q I ⟨_, e2, rfl, rfl, dx, ws, v, rfl, A.le _ _ hr, e3, g G H (Grow.refl A.le) v rv⟩
  · exact False.elim k⟩
end
end TR

set_option Elab.async false
set_option linter.all false
set_option maxRecDepth 100000
/-! TRZF: classes made with keywords or whose making may raise; evaluation of raise and try; what the end needs. -/
namespace TR
open PySem PySem.Spec L2
set_option autoImplicit false
section
variable {D : Wd} {W : WX} {X : Cx} {e o : Expr} {es : List Expr} {pos p p2 p3 : Pos} {m mo : EM PV} {ms mz : EM (List AV)} {G G1 G' H H1 H2 H' : Hp} {kws : List Keyword}
def mkXR (c : Nat) (f : FM) (as : List AV) : EM MO := fun ρ => match mkArgs as ρ with
  | none => .stuck
  | some ss => if (owns as ρ).Nodup then (match f (.own true (.obj c []) :: ss) with
    | .ok (.v .non) (.own true mo :: ss') => .ok mo (putBack as ss' ρ)
    | .exc e (.own true mo :: ss') => .exc e (putBack as ss' ρ)
    | _ => .stuck) else .stuck
def mkX (c : Nat) (f : FM) (ms : EM (List AV)) : EM MO := fun ρ => (ms ρ).bind fun as ρ => mkXR c f as ρ
theorem mkX_le {c : Nat} {fm : FM} {C : Addr} (t : D.T c C) (σ : St) (H : Hp) (Q : VK) (h : tN D W (mkX c fm ms) σ H Q) : tMkA C (FSp D fm) W (tA D W ms) σ H Q := by
  obtain ⟨G, ρ, A, k0⟩ := h
  refine ⟨G, ρ, A, ?_⟩
  unfold mkX at k0
  cases q : ms ρ with
  | stuck => rw [q] at k0; exact k0
  | exc ex ρ' => rw [q] at k0; exact k0
  | ok as ρ1 =>
    rw [q] at k0
    simp only [Out.bind_ok] at k0
    intro G1 H1 n1 vs rs x dx hx hd ne
    unfold mkXR at k0
    split at k0
    · exact False.elim k0
    · rename_i ss es
      split at k0
      · rename_i nd
        have A1 := abs_args n1.abs rs es nd
        obtain ⟨gx, ox⟩ := free_of A1 hx
        obtain ⟨gd, od⟩ := free_of A1 hd
        have m1 : Nx D G1 H1 (vs.map some) ss G1 (upd H1 dx (.own x)) (vs.map some) ss := nx_new (Nx.refl A1) hd gd od
        have m2 : Nx D G1 H1 (vs.map some) ss G1 (upd (upd H1 dx (.own x)) x (.ins C dx [])) (vs.map some) ss := nx_new m1 hx gx ox
        have A2 : Abs D G1 (upd (upd H1 dx (.own x)) x (.ins C dx [])) ((V.ref x :: vs).map some) (.own true (.obj c []) :: ss) := by
          refine ⟨m2.abs.le, by have := m2.abs.len; simpa using this, fun i s h => ?_, fun i j b mo1 b' mo2 a h1 h2 h3 h4 => ?_⟩
          · cases i with
            | zero =>
              simp at h; subst h
              exact ⟨x, rfl, gx, C, dx, [], upd_same, t, rfl⟩
            | succ i => exact m2.abs.sl i s (by simpa using h)
          · have nx : ∀ {i : Nat} {b : Bool} {mo1 : MO}, ss[i]? = some (.own b mo1) → (vs.map some)[i]? = some (some (V.ref x)) → False := fun {i b mo1} u1 u2 => ox ⟨i, b, mo1, u1, u2⟩
            cases i with
            | zero =>
              cases j with
              | zero => rfl
              | succ j =>
                simp at h3
                subst h3
                exact (nx (i := j) (by simpa using h2) (by simpa using h4)).elim
            | succ i =>
              cases j with
              | zero =>
                simp at h4
                subst h4
                exact (nx (i := i) (by simpa using h1) (by simpa using h3)).elim
              | succ j => rw [m2.abs.inj i j b mo1 b' mo2 a (by simpa using h1) (by simpa using h2) (by simpa using h3) (by simpa using h4)]
        refine ⟨G1, .own true (.obj c []) :: ss, (mkArgs_get es).2.1, A2, ?_⟩
        split at k0
        · rename_i mo ss' hf
          rw [hf]
          intro G' H' v n rr
          have nt := nx_tail n1.abs.le hx hd ne A1 n
          have nc := nx_call n1.abs rs es nd nt
          obtain ⟨ad, e1, ga, rm⟩ := n.abs.own (i := 0) (b := true) (m := mo) rfl
          simp at e1
          subst e1
          refine ⟨rr, k0 G' H' (n1.trans nc) x ga (n1.d x hx) rm fun w => ?_⟩
          obtain ⟨⟨u, hu⟩, _⟩ := n1.abs.ow_some (putBack_ow as ss' ρ1 w)
          rw [hx] at hu; cases hu
        · rename_i ex mo ss' hf
          rw [hf]
          intro G' H' cl d n er
          exact k0 G' H' cl d (n1.trans (nx_call n1.abs rs es nd (nx_tail n1.abs.le hx hd ne A1 n))) er
        · exact False.elim k0
      · exact False.elim k0
theorem rn_mkX {k c : Nat} {x : Str} {fm : FM} (F : MkAt X.prog X.w X.K X.mg X.base D k c x fm) (hr : Room (k + 1) X.A) (tk : Takes X W) (ha : RA D W X (e :: es) ms) (hg : Gl X x := by rfl) (hdb : (x == ("__debug__" : Str)) = false := by decide)
    (he : starEach (e :: es) X.env = (false, eval e X.env) :: starEach es X.env := by rfl) (hpl : (backTo pos (starEach es X.env)).any (·.1) = false := by rfl) : RN D W X (.Call (.Name x p) (e :: es) [] pos) (mkX c fm ms) := by
  obtain ⟨C, f, fd, ps, h1, h2, h3, h4, h5⟩ := F.ex
  refine PE.imp (t := tMkA C (FSp D fm) W (tA D W ms)) ⟨fun pins s σ H Q I h => ?_⟩ (mkX_le h2)
  refine wpAny_Call_Name_kw (ld_glob I hg h1 (PySem.W.callWith_K (h₀ := X.base) I.ok.mod.kin h3.kp (thn (ha.run pos pins s σ H _ I h) fun us s1 hy => ?_) he hpl) hdb)
  obtain ⟨vs, H1, I1, r, q⟩ := hy
  exact ⟨I1.kIn, run_mkA h3 h5 hr h4 tk I1 r q⟩
theorem rn_mkX0 {k c : Nat} {x : Str} {fm : FM} (F : MkAt X.prog X.w X.K X.mg X.base D k c x fm) (hr : Room (k + 1) X.A) (tk : Takes X W) (hg : Gl X x := by rfl) (hdb : (x == ("__debug__" : Str)) = false := by decide) : RN D W X (.Call (.Name x p) [] [] pos) (mkX c fm argNil) := by
  obtain ⟨C, f, fd, ps, h1, h2, h3, h4, h5⟩ := F.ex
  refine PE.imp (t := tMkA C (FSp D fm) W tNil) ⟨fun pins s σ H Q I h => ?_⟩ fun σ H Q h => ?_
  · exact wpAny_Call_Name_kw (ld_glob I hg h1 (PySem.W.callWith_K0 I.kIn h3.kp (run_mkA (us := []) h3 h5 hr h4 tk I .nil h)) hdb)
  · obtain ⟨G, ρ, A, k⟩ := mkX_le h2 σ H Q h
    exact k G H (Nx.refl A) [] rfl
/-! ### with keywords -/
structure KwBm (K : PySem.W.Frag) (D : Wd) (fd : FuncData) (ps : List Str) (n : Nat) (ks : List Str) (arr : List Src) : Prop where
  ex : ∃ (dU : Nat → Value) (dV : Nat → V), (∀ j x, Src.df j x ∈ arr → RelV (dV j) (dU j) ∧ ∀ G, Rep D G x (dV j)) ∧
    ∀ (s : Shared) (o : Value) (us ws : List Value), K.In s.heap → us.length = n → ws.length = ks.length → BindsTo s fd ⟨o :: us, ks.zip ws⟩ (ps.zip (o :: arr.map (Src.uv dU (us ++ ws))))
structure DefMkK (K : PySem.W.Frag) (mg : Str → Option Value) (D : Wd) (c : Nat) (x qual : Str) (st : Stmt) (ps : List Str) (shs : List Sh) : Prop where
  ex : ∃ (C f : Addr) (fd : FuncData), mg x = some (.ref C) ∧ D.T c C ∧ Mk K C f ∧ Fun K "__init__" qual st f fd ∧ ∀ sh ∈ shs, KwBm K D fd ps sh.n sh.ks sh.arr
structure MkAtK (P : Program) (w : World) (K : PySem.W.Frag) (mg : Str → Option Value) (base : Heap) (D : Wd) (k c : Nat) (x : Str) (shs : List Sh) (fm : FM) : Prop where
  ex : ∃ (C f : Addr) (fd : FuncData) (ps : List Str), mg x = some (.ref C) ∧ D.T c C ∧ Mk K C f ∧ (∀ sh ∈ shs, KwBm K D fd ps sh.n sh.ks sh.arr) ∧ FnOk P w K mg base (L2.CX P w) k f fd ps (FSp D fm)
theorem MkAtK.mono {P : Program} {w : World} {K : PySem.W.Frag} {mg : Str → Option Value} {base : Heap} {j k c : Nat} {x : Str} {shs : List Sh} {fm : FM} (h : MkAtK P w K mg base D j c x shs fm) (l : j ≤ k) : MkAtK P w K mg base D k c x shs fm :=
  let ⟨C, f, fd, ps, a, t, b, d, F⟩ := h.ex; ⟨C, f, fd, ps, a, t, b, d, F.mono l⟩
theorem mkK_at {P : Program} {w : World} {K : PySem.W.Frag} {mg : Str → Option Value} {base : Heap} {c : Nat} {x qual : Str} {st : Stmt} {N ps : List Str} {shs : List Sh} {k n : Nat} {body : SM} (d : DefMkK K mg D c x qual st ps shs) (S : FnScope N ps (defScope st)) (hn : ps.length = n) (hN : n ≤ N.length)
    (hb : ∀ {f : Addr} (cdv : Value) (A : Around) (outer : List Env) (s : Shared) (H : Hp) (E : XK), Room k (A.deeper (PyProof.Rows.envOfC qual (defScope st) s.heap.objs.size f cdv)) → Takes (cxB P w K mg base N qual (defScope st) f cdv A outer s H E) (fun c d _ H => E c d H) → RSs D (fun c d _ H => E c d H) (cxB P w K mg base N qual (defScope st) f cdv A outer s H E) (defBody st) body) :
    MkAtK P w K mg base D (k + 1) c x shs (fnB n N.length body) := by
  obtain ⟨C, f, fd, h1, h2, h3, h4, h5⟩ := d.ex
  exact ⟨C, f, fd, ps, h1, h2, h3, h5, fn_ok h4 S hn hN fun cdv A outer s H E hr => hb cdv A outer s H E hr (takes_of rfl rfl rfl rfl)⟩
def mkK (c : Nat) (f : FM) (n m : Nat) (arr : List Src) (ms mz : EM (List AV)) : EM MO := mkX c f (argsK n m arr ms mz)
theorem run_mkK {k : Nat} {C f : Addr} {fd : FuncData} {ps ks : List Str} {arr : List Src} {sp : Sp} {pins : List (Addr × Obj)} {σ : St} {s : Shared} {Q : VK} {us ws : List Value} {vs zs : List V} {dU : Nat → Value} {dV : Nat → V} (M : Mk X.K C f) (F : FnOk X.prog X.w X.K X.mg X.base (L2.CX X.prog X.w) k f fd ps sp) (hr : Room (k + 1) X.A) (tk : Takes X W)
    (hd : ∀ j x, Src.df j x ∈ arr → RelV (dV j) (dU j)) (hb : ∀ (s : Shared) (o : Value), X.K.In s.heap → BindsTo s fd ⟨o :: us, ks.zip ws⟩ (ps.zip (o :: arr.map (Src.uv dU (us ++ ws)))))
    (I : Inv X pins σ H s) (r : Vals vs us) (rz : Vals zs ws) (h : ∀ x dx, H x = none → H dx = none → dx ≠ x → sp (.ref x :: arr.map (Src.sv dV (vs ++ zs))) (upd (upd H dx (.own x)) x (.ins C dx [])) (fun v H2 => v = .non ∧ Q (.ref x) H2) (WE W σ)) :
    wpAny (model X.prog X.w) X.A (call (.ref C) us (ks.zip ws)) (EP X pins σ Q) X.xe s := by
  have q0 := h (s.heap.objs.size + 1) s.heap.objs.size (I.hok.fresh (Nat.le_succ _)) (I.hok.fresh (Nat.le_refl _)) (Nat.ne_of_lt (Nat.lt_succ_self _))
  have J := Inv.made (C := C) I
  have rr : Vals (V.ref (s.heap.objs.size + 1) :: arr.map (Src.sv dV (vs ++ zs))) (Value.ref (s.heap.objs.size + 1) :: arr.map (Src.uv dU (us ++ ws))) := .cons rfl (vals_arr (r.append rz) arr hd)
  refine wpAny_call (make_map (f := f) I.kIn M.makes M.init (beq_iff_eq.mp M.fn) (codeAny_mono (F.run _ X.stack _ _ ⟨Value.ref (s.heap.objs.size + 1) :: us, ks.zip ws⟩ _ _ _ (WE W σ) (hr.make C us (ks.zip ws)) (J.env0.make C us (ks.zip ws)) (hb _ _ J.kIn) rr q0) fun res s' hq => ?_))
  cases res with
  | error er => exact passAt tk σ pins _ _ er s' J hq
  | ok fl =>
    cases fl with
    | ret u =>
      obtain ⟨v, H', I3, rv, ev, q3⟩ := J.after hq
      cases ev
      exact ⟨rv, V.ref (s.heap.objs.size + 1), H', I3, rfl, q3⟩
    | _ => exact hq.elim
theorem rn_mkK {k c : Nat} {x : Str} {shs : List Sh} {fm : FM} {sh : Sh} (F : MkAtK X.prog X.w X.K X.mg X.base D k c x shs fm) (hs : sh ∈ shs) (hr : Room (k + 1) X.A) (tk : Takes X W) (ha : RA D W X (e :: es) ms) (hz : RK D W X kws mz) (hg : Gl X x := by rfl)
    (hall : (backToKw pos (keywordEach kws X.env)).all (·.1.isSome) = true := by rfl) (hks : (backToKw pos (keywordEach kws X.env)).filterMap (·.1) = sh.ks := by rfl) (hdb : (x == ("__debug__" : Str)) = false := by decide)
    (he : starEach (e :: es) X.env = (false, eval e X.env) :: starEach es X.env := by rfl) (hpl : ((backTo pos (starEach (e :: es) X.env)).any (·.1) || (backToKw pos (keywordEach kws X.env)).any (·.1.isNone)) = false := by rfl) :
    RN D W X (.Call (.Name x p) (e :: es) kws pos) (mkK c fm sh.n sh.ks.length sh.arr ms mz) := by
  obtain ⟨C, f, fd, ps, h1, h2, h3, h4, h5⟩ := F.ex
  obtain ⟨dU, dV, hd, hb⟩ := (h4 sh hs).ex
  refine PE.imp (t := tKw sh.n sh.ks.length W (fun vs zs H Q E => ∀ x dx, H x = none → H dx = none → dx ≠ x → FSp D fm (.ref x :: sh.arr.map (Src.sv dV (vs ++ zs))) (upd (upd H dx (.own x)) x (.ins C dx [])) (fun v H2 => v = .non ∧ Q (.ref x) H2) E) (tA D W ms) (tA D W mz))
    ⟨fun pins s σ H Q I h => ?_⟩ fun σ H Q h => argsK_le (fun j x m => (hd j x m).2) σ H _ (mkX_le h2 σ H Q h)
  refine wpAny_Call_Name_kw (ld_glob I hg h1 (PySem.W.callWith_KW (h₀ := X.base) I.ok.mod.kin h3.kp hall (thn (ha.run pos pins s σ H _ I h) fun us s1 hy => ?_) hpl he) hdb)
  obtain ⟨vs, H1, I1, r, q⟩ := hy
  refine thn (hz.run pos pins s1 σ H1 _ I1 q) fun ws s2 hy => ?_
  obtain ⟨zs, H2, I2, rz, l1, l2, q2⟩ := hy
  refine ⟨I2.kIn, ?_⟩
  rw [hks]
  exact run_mkK h3 h5 hr tk (fun j x m => (hd j x m).1) (fun s o k => hb s o us ws k (r.length.symm.trans l1) (rz.length.symm.trans l2)) I2 r rz q2
/-! ### evaluation -/
def rsx (c : Nat) (fs : List Str) : Option (List PV) → SM
  | some xs, ρ => if xs.length = fs.length then .exc ⟨c, (fs.zip xs).reverse⟩ ρ else .stuck
  | none, _ => .stuck
@[simp] theorem rsx_some (c : Nat) (fs : List Str) (xs : List PV) (ρ : Ev) : rsx c fs (some xs) ρ = if xs.length = fs.length then .exc ⟨c, (fs.zip xs).reverse⟩ ρ else .stuck := (rfl)
def kRs (c : Nat) (fs : List Str) : List AV → SM := fun as ρ => rsx c fs (vals as) ρ
@[simp] theorem kRs_ (c : Nat) (fs : List Str) (as : List AV) (ρ : Ev) : kRs c fs as ρ = rsx c fs (vals as) ρ := (rfl)
@[simp] theorem ev_raise (c : Nat) (fs : List Str) (ms : EM (List AV)) (ρ : Ev) : raiseM c fs ms ρ = (ms ρ).to (kRs c fs) := by
  unfold raiseM
  cases ms ρ with
  | ok as ρ => simp only [Out.to_ok, kRs_]; cases vals as <;> rfl
  | _ => rfl
def nOw : Option Slot → Bool
  | some (.own _ _) => false
  | some (.exn _) => false
  | some _ => true
  | none => false
@[simp] theorem nOw_non : nOw (some .non) = true := (rfl)
@[simp] theorem nOw_val (x : PV) : nOw (some (.val x)) = true := (rfl)
@[simp] theorem ev_noOwn (ρ : Ev) (i : Nat) : noOwn ρ i = nOw ρ[i]? := (rfl)
@[simp] theorem noEx_non : noEx .non = true := (rfl)
@[simp] theorem noEx_val (x : PV) : noEx (.val x) = true := (rfl)
@[simp] theorem noEx_own (b : Bool) (m : MO) : noEx (.own b m) = true := (rfl)
@[simp] theorem clean_nil : clean [] = true := (rfl)
@[simp] theorem clean_cons (s : Slot) (ρ : Ev) : clean (s :: ρ) = (noEx s && clean ρ) := (rfl)
@[simp] theorem endX_nxt (i : Nat) (ρ : Ev) : endX i (.nxt ρ) = if clean (ρ.set i .non) = true then .nxt (ρ.set i .non) else .stuck := (rfl)
@[simp] theorem endX_ret (i : Nat) (r : Ret) (ρ : Ev) : endX i (.ret r ρ) = if clean (ρ.set i .non) = true then .ret r (ρ.set i .non) else .stuck := (rfl)
def tryK (tab : List Nat) (i : Nat) (ms : SM) : SO → SO
  | .exc e ρ1 => if e.c ∈ tab then (if (clean ρ1 && noOwn ρ1 i) = true then endX i (ms (ρ1.set i (.exn e))) else .stuck) else .exc e ρ1
  | o => o
@[simp] theorem tryK_nxt (tab : List Nat) (i : Nat) (ms : SM) (ρ : Ev) : tryK tab i ms (.nxt ρ) = .nxt ρ := (rfl)
@[simp] theorem tryK_ret (tab : List Nat) (i : Nat) (ms : SM) (r : Ret) (ρ : Ev) : tryK tab i ms (.ret r ρ) = .ret r ρ := (rfl)
@[simp] theorem tryK_exc (tab : List Nat) (i : Nat) (ms : SM) (e : Ex) (ρ : Ev) : tryK tab i ms (.exc e ρ) = if e.c ∈ tab then (if (clean ρ && noOwn ρ i) = true then endX i (ms (ρ.set i (.exn e))) else .stuck) else .exc e ρ := (rfl)
@[simp] theorem ev_tryAs (mb : SM) (tab : List Nat) (i : Nat) (ms : SM) (ρ : Ev) : tryAs mb tab i ms ρ = tryK tab i ms (mb ρ) := by
  unfold tryAs
  cases mb ρ <;> rfl
@[simp] theorem noXs_nxt (ρ : Ev) : noXs (.nxt ρ) = .nxt ρ := (rfl)
@[simp] theorem noXs_ret (r : Ret) (ρ : Ev) : noXs (.ret r ρ) = .ret r ρ := (rfl)
def tryL (tab : List Nat) (ms : SM) : SO → SO
  | .exc e ρ1 => if e.c ∈ tab then noXs (ms ρ1) else .exc e ρ1
  | o => o
@[simp] theorem tryL_nxt (tab : List Nat) (ms : SM) (ρ : Ev) : tryL tab ms (.nxt ρ) = .nxt ρ := (rfl)
@[simp] theorem tryL_ret (tab : List Nat) (ms : SM) (r : Ret) (ρ : Ev) : tryL tab ms (.ret r ρ) = .ret r ρ := (rfl)
@[simp] theorem tryL_exc (tab : List Nat) (ms : SM) (e : Ex) (ρ : Ev) : tryL tab ms (.exc e ρ) = if e.c ∈ tab then noXs (ms ρ) else .exc e ρ := (rfl)
@[simp] theorem ev_tryOn (mb : SM) (tab : List Nat) (ms : SM) (ρ : Ev) : tryOn mb tab ms ρ = tryL tab ms (mb ρ) := by
  unfold tryOn
  cases mb ρ <;> rfl
def xf (f : Str) : Option Slot → Ev → Out PV
  | some (.exn e), ρ => lift (e.fs.lookup f) ρ
  | _, _ => .stuck
@[simp] theorem xf_exn (f : Str) (e : Ex) (ρ : Ev) : xf f (some (.exn e)) ρ = lift (e.fs.lookup f) ρ := (rfl)
@[simp] theorem ev_xfld (i : Nat) (f : Str) (ρ : Ev) : xfld i f ρ = xf f ρ[i]? ρ := by
  unfold xfld
  cases ρ[i]? with
  | none => rfl
  | some s => cases s <;> rfl
def mxk (as : List AV) (ρ : Ev) : FOut → Out MO
  | .ok (.v .non) (.own true mo :: ss') => .ok mo (putBack as ss' ρ)
  | .exc e (.own true mo :: ss') => .exc e (putBack as ss' ρ)
  | _ => .stuck
@[simp] theorem mxk_ok (as : List AV) (ρ : Ev) (mo : MO) (ss : List Slot) : mxk as ρ (.ok (.v .non) (.own true mo :: ss)) = .ok mo (putBack as ss ρ) := (rfl)
@[simp] theorem mxk_exc (as : List AV) (ρ : Ev) (e : Ex) (mo : MO) (ss : List Slot) : mxk as ρ (.exc e (.own true mo :: ss)) = .exc e (putBack as ss ρ) := (rfl)
def mxg (c : Nat) (f : FM) (as : List AV) (ρ : Ev) : Option (List Slot) → Out MO
  | some ss => if (owns as ρ).Nodup then mxk as ρ (f (.own true (.obj c []) :: ss)) else .stuck
  | none => .stuck
@[simp] theorem mxg_some (c : Nat) (f : FM) (as : List AV) (ρ : Ev) (ss : List Slot) : mxg c f as ρ (some ss) = if (owns as ρ).Nodup then mxk as ρ (f (.own true (.obj c []) :: ss)) else .stuck := (rfl)
def kMx (c : Nat) (f : FM) : List AV → Ev → Out MO := fun as ρ => mxg c f as ρ (mkArgs as ρ)
@[simp] theorem kMx_ (c : Nat) (f : FM) (as : List AV) (ρ : Ev) : kMx c f as ρ = mxg c f as ρ (mkArgs as ρ) := (rfl)
@[simp] theorem ev_mkX (c : Nat) (f : FM) (ms : EM (List AV)) (ρ : Ev) : mkX c f ms ρ = (ms ρ).bind (kMx c f) := by
  unfold mkX
  congr 1
  funext as ρ
  unfold mkXR kMx mxg
  cases mkArgs as ρ with
  | none => rfl
  | some ss =>
    dsimp only
    split
    · unfold mxk
      split <;> simp_all
    · rfl
@[simp] theorem ev_mkK (c : Nat) (f : FM) (n m : Nat) (arr : List Src) (ms mz : EM (List AV)) (ρ : Ev) : mkK c f n m arr ms mz ρ = (argsK n m arr ms mz ρ).bind (kMx c f) := ev_mkX c f (argsK n m arr ms mz) ρ
end
/-! ### for the end -/
section
variable {K : PySem.W.Frag} {mg : Str → Option Value} {h : Heap} {D : Wd}
theorem defXc_mk {c : Nat} {cn qual : Str} {st : Stmt} {ps fs : List Str} {C f : Addr} {oc : Value} {od an : Option Addr} {osl : Array (Option Value)} {kV doc pm cdv ct : Value} (X : K.In h) (G : h.Ns mainGlobals mg) (hD : D.E c C)
    (a : PySem.W.nsIn K mainGlobals cn = some (some (.ref C))) (T : XcC K C) (nf : ∀ f ∈ fs, PySem.W.findIn K (.ref C) f = some none) (hm : PySem.W.findIn K (.ref C) "__init__" = some (some (.ref f))) (tf : PySem.W.typeIn K (.ref f) = some (.type "function"))
    (l : K.lookup f = some ⟨oc, od, .func (PySem.W.fnOf "__init__" qual (defArgs st) (defBody st) (defScope st) .none kV doc pm an cdv ct), osl⟩) (cd : PySem.W.codeIn K cdv qual = true) (k : PySem.W.keepIn K (.ref f) = true)
    (hb : ∀ (kV doc pm : Value) (an : Option Addr) (cdv ct : Value) (us : List Value), us.length = ps.length → bindArgs (PySem.W.fnOf "__init__" qual (defArgs st) (defBody st) (defScope st) .none kV doc pm an cdv ct) ⟨us, []⟩ = pure (ps.zip us)) : DefXc K mg D c cn qual st ps fs := by
  have F : Fun K "__init__" qual st f _ := fun_mk l cd k
  exact ⟨C, f, _, PySem.W.mg_of X G a, hD, T, nf, hm, tf, F, F.binds hb⟩
theorem defAtK_mk {x : Str} {st : Stmt} {ps : List Str} {shs : List Sh} {f : Addr} {oc : Value} {od an : Option Addr} {osl : Array (Option Value)} {kV doc pm cdv ct : Value} (X : K.In h) (G : h.Ns mainGlobals mg)
    (a : PySem.W.nsIn K mainGlobals x = some (some (.ref f))) (l : K.lookup f = some ⟨oc, od, .func (PySem.W.fnOf x x (defArgs st) (defBody st) (defScope st) .none kV doc pm an cdv ct), osl⟩) (c : PySem.W.codeIn K cdv x = true) (k : PySem.W.keepIn K (.ref f) = true)
    (hs : ∀ sh ∈ shs, KwB K D (PySem.W.fnOf x x (defArgs st) (defBody st) (defScope st) .none kV doc pm an cdv ct) ps sh.n sh.ks sh.arr) : DefAtK K mg D x st ps shs :=
  ⟨f, _, PySem.W.mg_of X G a, fun_mk l c k, hs⟩
theorem defMkK_mk {c : Nat} {cn qual : Str} {st : Stmt} {ps : List Str} {shs : List Sh} {C f : Addr} {oc : Value} {od an : Option Addr} {osl : Array (Option Value)} {kV doc pm cdv ct : Value} (X : K.In h) (G : h.Ns mainGlobals mg) (hD : ∀ C, mg cn = some (.ref C) → D.T c C)
    (a : PySem.W.nsIn K mainGlobals cn = some (some (.ref C))) (mk : PySem.W.makesIn K C = true) (hm : PySem.W.findIn K (.ref C) "__init__" = some (some (.ref f))) (kC : PySem.W.keepIn K (.ref C) = true) (l : K.lookup f = some ⟨oc, od, .func (PySem.W.fnOf "__init__" qual (defArgs st) (defBody st) (defScope st) .none kV doc pm an cdv ct), osl⟩)
    (cd : PySem.W.codeIn K cdv qual = true) (hf : PySem.W.isFn K (.ref f) = true) (k : PySem.W.keepIn K (.ref f) = true)
    (hs : ∀ sh ∈ shs, KwBm K D (PySem.W.fnOf "__init__" qual (defArgs st) (defBody st) (defScope st) .none kV doc pm an cdv ct) ps sh.n sh.ks sh.arr) : DefMkK K mg D c cn qual st ps shs := by
  have F : Fun K "__init__" qual st f _ := fun_mk l cd k
  exact ⟨C, f, _, PySem.W.mg_of X G a, hD C (PySem.W.mg_of X G a), ⟨mk, hm, hf, kC⟩, F, hs⟩
/-- the binding of a call's form: the keyword-only parameters that lack are looked up in the dict at Dk -/
theorem kwB_mk {fd : FuncData} {ps ks : List Str} {n : Nat} {arr : List Src} {Dk : Addr} (nms : List Str) (dU : Nat → Value) (dV : Nat → V) (hd : ∀ j x, Src.df j x ∈ arr → RelV (dV j) (dU j) ∧ ∀ G, Rep D G x (dV j)) (us0 : List Value) (hq : ∀ q ∈ nms.zip us0, PySem.W.nsIn K Dk q.1 = some (some q.2))
    (hb : ∀ us ws : List Value, us.length = n → ws.length = ks.length → KwChain Dk (nms.zip us0) (bindArgs fd ⟨us, ks.zip ws⟩) (ps.zip (arr.map (Src.uv dU (us ++ ws))))) : KwB K D fd ps n ks arr :=
  ⟨dU, dV, hd, fun s us ws X l1 l2 => BindsTo.of_looks fun M => KwChain.looks X hq (hb us ws l1 l2)⟩
theorem kwBm_mk {fd : FuncData} {ps ks : List Str} {n : Nat} {arr : List Src} {Dk : Addr} (nms : List Str) (dU : Nat → Value) (dV : Nat → V) (hd : ∀ j x, Src.df j x ∈ arr → RelV (dV j) (dU j) ∧ ∀ G, Rep D G x (dV j)) (us0 : List Value) (hq : ∀ q ∈ nms.zip us0, PySem.W.nsIn K Dk q.1 = some (some q.2))
    (hb : ∀ (o : Value) (us ws : List Value), us.length = n → ws.length = ks.length → KwChain Dk (nms.zip us0) (bindArgs fd ⟨o :: us, ks.zip ws⟩) (ps.zip (o :: arr.map (Src.uv dU (us ++ ws))))) : KwBm K D fd ps n ks arr :=
  ⟨dU, dV, hd, fun s o us ws X l1 l2 => BindsTo.of_looks fun M => KwChain.looks X hq (hb o us ws l1 l2)⟩
end
end TR

set_option Elab.async false
set_option linter.all false
set_option maxRecDepth 100000
/-! TRZG: operators of own classes with any right side, methods of new lists, sorted texts. -/
namespace TR
open PySem PySem.Spec L2
set_option autoImplicit false
section
open PySem.W PyProof.Rows
variable {prog : Program} {w : World} {A : Around} {E : Value → Shared → Prop} {s : Shared} {K : Frag} {x C f : Addr} {ox : Obj} {od : Option Obj} {op : Operator} {T : String} {b : Value} {fo ro rc : Option Value}
/-- what the written part says of a built-in type on the right -/
structure RightTy (K : Frag) (C : Addr) (nm : String) (T : String) : Prop where
  ex : ∃ fo ro : Option Value, findIn K (.type T) (PySem.dunder nm) = some fo ∧ findIn K (.type T) (dunderR nm) = some ro ∧ subIn K (.type T) (.ref C) = some false
theorem own_binT {Q : Value → Shared → Prop} (X : K.In s.heap) (I : InstAt s.heap x ox C od) (LT : Looks (model prog w) s.heap (typeOf b) (.type T)) (hc : selfFirst K C = true) (hs : findIn K (.ref C) (PySem.dunder op.info.2) = some (some (.ref f))) (hf : isFn K (.ref f) = true)
    (hr : findIn K (.ref C) (dunderR op.info.2) = some none) (R : RightTy K C op.info.2 T) (h : wpAny (model prog w) A (call (.ref f) [.ref x, b]) (PySem.W.CmpBack Q) E s) : wpAny (model prog w) A (binaryOp op (.ref x) b) Q E s := by
  obtain ⟨cd, rest, e1, e2⟩ := ksp_first hc
  obtain ⟨fo, ro, h1, h2, hsub⟩ := R.ex
  have t := ksp_try X I hs hf h
  rcases hi : op.info with ⟨sym, nm⟩
  rw [hi] at hs hr h1 h2 t
  dsimp only at hs hr h1 h2 t
  obtain ⟨hh, g, d, tt, os⟩ := s
  have y1 : Looks (model prog w) hh (typeOf (.ref x)) (.ref C) := I.type
  have y2 : Looks (model prog w) hh (typeOf b) (.type T) := LT
  have y3 : Looks (model prog w) hh (fillsNumberSlot (.ref C) nm) true := fills_K X e1 e2 hs
  have y4 := ksp_fillsT (M := model prog w) X h1 h2
  have y5 : Looks (model prog w) hh (isSubtype (.type T) (.ref C)) false := looks_subIn X hsub
  have y6 : Looks (model prog w) hh (numberSlotInPython (.ref C) nm) true := ksp_inPy X hs hr (.inl rfl)
  have y7 : Looks (model prog w) hh (numberSlotInPython (.type T) nm) false := Looks.of_pure rfl
  have y8 : Looks (model prog w) hh (typeLookup (.type T) (dunderR nm)) ro := looks_findIn X h2
  generalize ((fo.isSome && !isSeqSlot fo) || (ro.isSome && !isSeqSlot ro)) = right at y4
  have ne : (Value.ref C == Value.type T) = false := by
    rw [Bool.eq_false_iff]
    intro z
    have z' := beq_iff_eq.mp z
    cases z'
  simp only [binaryOp, hi]
  apply wpAny_holding
  apply wpAny_bind
  unfold binaryOp1
  apply wpAny_bind
  apply y1.at
  apply wpAny_bind
  apply y2.at
  apply wpAny_bind
  apply y3.at
  simp only [ne, Bool.false_eq_true, if_false]
  cases right
  all_goals
    ksp_lk
    refine wpAny_mono t (fun r s' hr => ?_) fun _ _ e => e
    obtain ⟨v, rfl, q⟩ := hr
    ksp_lk
    exact q
end
section
variable {D : Wd} {W : WX} {X : Cx} {a b e o : Expr} {es : List Expr} {op : Operator} {pos p p2 apos : Pos} {ma mb : EM PV} {mo : EM MO} {ms : EM (List AV)} {k c : Nat} {nm : Str} {fm : FM} {ta tb : TE} {G G' H H' : Hp}
/-- what an operator of an own class asks, whatever stands on the right -/
def tDunX (X : Cx) (W : WX) (op : Operator) (nm : Str) (ta tb : TE) : TE := fun σ H Q => ta σ H fun x H1 => tb σ H1 fun y H2 => ∃ (a C dx : Addr) (fs : List (Str × V)) (k : Nat) (f : Addr) (fd : FuncData) (ps : List Str) (sp : Sp), x = .ref a ∧ H2 a = some (.ins C dx fs) ∧
  ((∃ (b dy : Addr) (gs : List (Str × V)), y = .ref b ∧ H2 b = some (.ins C dy gs)) ∨ ∃ T : String, TyX X.K H2 y (.type T) ∧ PySem.W.findIn X.K (.ref C) (dunderR op.info.2) = some none ∧ RightTy X.K C op.info.2 T) ∧
  PySem.W.selfFirst X.K C = true ∧ Meth X.K C nm f ∧ Binds X.K fd ps [] ∧ FnOk X.prog X.w X.K X.mg X.base (L2.CX X.prog X.w) k f fd ps sp ∧ Room k X.A ∧ sp [x, y] H2 Q (WE W σ)
theorem pe_dunX (hn : PySem.dunder op.info.2 = nm) (tk : Takes X W) (ha : PE X a ta) (hb : PE X b tb) : PE X (.BinOp a op b pos) (tDunX X W op nm ta tb) := ⟨fun pins s σ H Q I h => by
  refine wpAny_BinOp (thn (ha.run pins s σ H _ I h) fun u s1 ⟨x, H1, I1, rx, h1⟩ => ?_)
  refine thn (hb.run pins s1 σ H1 _ I1 h1) fun v s2 ⟨y, H2, I2, ry, h2⟩ => ?_
  obtain ⟨p, C, dx, fs, k, f, fd, ps, sp, rfl, e1, hy, hc, hm, hb, F, hr, z⟩ := h2
  cases rx
  obtain ⟨_, O1, _⟩ := ins_get I2.hok e1
  obtain ⟨_, J1, _⟩ := O1.look
  have back : wpAny (model X.prog X.w) X.A (call (.ref f) [.ref p, v]) (PySem.W.CmpBack (EP X pins σ Q)) X.xe s2 := wpAny_mono (run_fnSD (E := WE W) (us := [.ref p, v]) (vs := [.ref p, y]) (dvs := []) (ds := []) F hr hb .nil (passAt tk σ) I2 (.cons rfl (.cons ry .nil)) z) (fun r s3 hq => by
    obtain ⟨x, H3, I3, rr, q3⟩ := hq
    cases r <;> first | exact ⟨x, H3, I3, rr, q3⟩ | (cases x <;> first | (cases rr; done) | (obtain ⟨_, rr⟩ := rr; cases rr))) fun _ _ e => e
  rcases hy with ⟨q, dy, gs, rfl, e2⟩ | ⟨T, ty, hnr, R⟩
  · cases ry
    obtain ⟨_, O2, _⟩ := ins_get I2.hok e2
    obtain ⟨_, J2, _⟩ := O2.look
    exact own_bin I2.kIn J1 J2 hc (hn ▸ hm.at_) hm.fn back
  · obtain ⟨P, Z, hp, _⟩ := kit_of I2 ry ty
    exact own_binT I2.kIn J1 (Z.ty _ _ I2.kIn hp) hc (hn ▸ hm.at_) hm.fn hnr R back⟩
/-- the class of that number, and all built-in types on its right -/
structure DunTy (D : Wd) (c : Nat) (nm : String) : Prop where
  r : ∀ C, D.T c C → PySem.W.findIn D.K (.ref C) (dunderR nm) = some none
  t : ∀ C, D.T c C → ∀ T : String, T ∈ ["NoneType", "bool", "int", "str", "list", "tuple", "dict"] → RightTy D.K C nm T
def okY (c : Nat) : PV → Bool
  | .obj d _ => d == c
  | _ => true
def argsX (c : Nat) (ma mb : EM PV) : EM (List AV) := fun ρ => (ma ρ).bind fun x ρ => (mb ρ).bind fun y ρ => match x with
  | .obj c1 fs => if c1 = c ∧ okY c y = true then .ok [.v (.obj c1 fs), .v y] ρ else .stuck
  | _ => .stuck
def dunX (c : Nat) (fm : FM) (ma mb : EM PV) : EM PV := callE fm (argsX c ma mb)
theorem right_ty (u : DunAt D c) (le : LeG G H) {C : Addr} (t : D.T c C) {y : PV} {v : V} (hy : okY c y = true) (r : Rep D G y v) : (∃ (b dy : Addr) (gs : List (Str × V)), v = .ref b ∧ H b = some (.ins C dy gs)) ∨ ∃ T : String, TyX D.K H v (.type T) ∧ T ∈ ["NoneType", "bool", "int", "str", "list", "tuple", "dict"] := by
  cases y with
  | non => cases r; exact .inr ⟨_, .base .non, by simp⟩
  | bl k => cases r; exact .inr ⟨_, .base (.bl k), by simp⟩
  | int k => cases r; exact .inr ⟨_, .base (.int k), by simp⟩
  | str k => cases r; exact .inr ⟨_, .base (.str k), by simp⟩
  | lst xs =>
    obtain ⟨ad, vs, rfl, h, _⟩ := r
    exact .inr ⟨_, tyx_lst (G := G) (sqL_mono le h), by simp⟩
  | tup xs =>
    obtain ⟨ad, vs, rfl, h, _⟩ := r
    exact .inr ⟨_, tyx_tup (G := G) (sqT_mono le h), by simp⟩
  | dct xs =>
    obtain ⟨ad, vs, rfl, h, _⟩ := r
    refine .inr ⟨"dict", ?_, by simp⟩
    rcases le.rd h with h | ⟨o, h⟩
    · exact .base (.dK h)
    · exact .fDict h
  | obj d fs =>
    obtain ⟨ad, C', dx, ws, rfl, h, t2, _⟩ := r
    have hd : d = c := by simpa [okY] using hy
    subst hd
    have := u.uq _ _ t t2
    subst this
    exact .inl ⟨ad, dx, ws, rfl, le _ _ h⟩
theorem re_dunX (hK : D.K = X.K) (u : DunAt D c) (ut : DunTy D c op.info.2) (T : MtAt X.prog X.w X.K X.mg X.base D k nm c fm) (hr : Room k X.A) (tk : Takes X W) (ha : RE D W X a ma) (hb : RE D W X b mb) (hn : PySem.dunder op.info.2 = nm := by rfl) : RE D W X (.BinOp a op b pos) (dunX c fm ma mb) :=
  (pe_dunX hn tk ha hb).imp fun σ H Q ⟨G, ρ, A, k⟩ => by
    have k' := Kg.bind (Kg.bind (Kg.map k))
    refine ⟨G, ρ, A, k'.mono fun x ρ1 G1 H1 n1 k1 v rv => ⟨G1, ρ1, n1.abs, (Kg.bind k1).mono fun y ρ2 G2 H2 n2 k2 w rw' => ?_⟩⟩
    split at k2
    · rename_i c1 fs
      split at k2
      · rename_i hc
        obtain ⟨rfl, hy⟩ := hc
        obtain ⟨p, C, dx, ws, e1, e2, t1, r1⟩ := rv.mono n2.leg
        subst e1
        obtain ⟨f, fd, ps, h1, h2, h3, h4⟩ := T.h C t1
        have hR := right_ty u n2.abs.le t1 hy rw'
        refine ⟨p, C, dx, ws, _, f, fd, ps, FSp D fm, rfl, n2.abs.le _ _ e2, ?_, hK ▸ u.sf C t1, h2, h3, h4, hr, ?_⟩
        · rcases hR with h | ⟨T, h5, h6⟩
          · exact .inl h
          · exact .inr ⟨T, hK ▸ h5, hK ▸ ut.r C t1, hK ▸ ut.t C t1 T h6⟩
        refine call_sp (as := [.v (.obj _ fs), .v y]) n2.abs ⟨_, _, rfl, ⟨p, C, dx, ws, rfl, e2, t1, r1⟩, _, _, rfl, rw', rfl⟩ (k2 G2 H2 (Nx.refl n2.abs)) fun r ρ' G' H' v n3 w p3 rr => ?_
        cases r with
        | v x => exact p3 G' H' n3 v rr
        | o mo =>
          obtain ⟨a, rfl, ga, ha, rm⟩ := rr
          obtain ⟨G3, n4, r4⟩ := nx_freeze n3 ga ha rm (ret_free n2.abs ha w)
          exact p3 G3 H' n4 _ r4
      · exact False.elim k2
    · exact False.elim k2
def kXr2 (c : Nat) : PV → PV → Ev → Out (List AV)
  | .obj c1 fs, y, ρ => if c1 = c ∧ okY c y = true then .ok [.v (.obj c1 fs), .v y] ρ else .stuck
  | _, _, _ => .stuck
@[simp] theorem kXr2_ (c c1 : Nat) (fs : List (Str × PV)) (y : PV) (ρ : Ev) : kXr2 c (.obj c1 fs) y ρ = if c1 = c ∧ okY c y = true then .ok [.v (.obj c1 fs), .v y] ρ else .stuck := (rfl)
def kXr1 (c : Nat) (mb : EM PV) : PV → Ev → Out (List AV) := fun x ρ => (mb ρ).bind (kXr2 c x)
@[simp] theorem kXr1_ (c : Nat) (mb : EM PV) (x : PV) (ρ : Ev) : kXr1 c mb x ρ = (mb ρ).bind (kXr2 c x) := (rfl)
@[simp] theorem ev_argsX (c : Nat) (ma mb : EM PV) (ρ : Ev) : argsX c ma mb ρ = (ma ρ).bind (kXr1 c mb) := by
  unfold argsX
  congr 1
  funext x ρ
  unfold kXr1
  congr 1
  funext y ρ
  cases x <;> rfl
@[simp] theorem ev_dunX (c : Nat) (fm : FM) (ma mb : EM PV) (ρ : Ev) : dunX c fm ma mb ρ = callE fm (argsX c ma mb) ρ := (rfl)
@[simp] theorem okY_obj (c d : Nat) (fs : List (Str × PV)) : okY c (.obj d fs) = (d == c) := (rfl)

/-! ### methods of a list that was just made -/
def tmpM (g : List PV → List PV → Option (PV × List PV)) (mo : EM MO) (ms : EM (List AV)) : EM PV := fun ρ => (mo ρ).bind fun m ρ1 => match m with
  | .lst xs => (ms ρ1).bind fun as ρ2 => match vals as with
    | some args => (match g xs args with
      | some (z, _) => .ok z ρ2
      | none => .stuck)
    | none => .stuck
  | _ => .stuck
theorem tmp_le {r : V → List V → Hp → VK → Prop} {g : List PV → List PV → Option (PV × List PV)} (sn : SnM D r g) (σ : St) (H : Hp) (Q : VK) (h : tE D W (tmpM g mo ms) σ H Q) : tBM D.K "list" r (tN D W mo) (tA D W ms) σ H Q := by
  obtain ⟨G, ρ, A, k⟩ := h
  refine ⟨G, ρ, A, ?_⟩
  unfold tmpM at k
  cases q : mo ρ with
  | stuck => rw [q] at k; exact k
  | exc ex ρ' => rw [q] at k; exact k
  | ok m ρ1 =>
    rw [q, Out.bind_ok] at k
    intro G1 H1 n1 ad ga ha rm no
    cases m with
    | dct _ => exact False.elim k
    | obj _ _ => exact False.elim k
    | lst xs =>
      obtain ⟨vs, hv, rs⟩ := rm
      refine ⟨.inl ⟨rfl, vs, .inl (.inl hv)⟩, G1, ρ1, n1.abs, ?_⟩
      dsimp only at k
      cases q2 : ms ρ1 with
      | stuck => rw [q2] at k; exact k
      | exc ex ρ' => rw [q2] at k; exact fun G' H' c d n2 => k G' H' c d (n1.trans n2)
      | ok as ρ2 =>
        rw [q2, Out.bind_ok] at k
        intro G2 H2 n2 ws rws
        split at k
        · rename_i args ea
          split at k
          · rename_i z ys eg
            have h2 : H2 ad = some (.lst vs) := n2.k ad _ hv no
            have g2 : G2 ad = none := by
              cases qg : G2 ad with
              | none => rfl
              | some u =>
                rcases n2.f ad u qg with y | y | y
                · rw [ga] at y; cases y
                · rw [hv] at y; cases y
                · exact absurd y.ow no
            have no2 : ¬ Ow σ ρ2 ad := fun w => by
              rcases n2.w ad w with y | y
              · exact no y
              · rw [hv] at y; cases y
            exact sn G2 H2 ad vs xs args ws z ys Q n2.abs.le h2 (rs.mono n2.leg) (vals_rep rws ea) eg fun vs' v r1 r2 => k G2 _ (nx_new (n1.trans n2) ha g2 no2) v r2
          · exact False.elim k
        · exact False.elim k
theorem re_tm {name : Str} {id : String} {r : V → List V → Hp → VK → Prop} {g : List PV → List PV → Option (PV × List PV)} (slot : PySem.Slot "list" name id) (hty : typeOf (.builtin id) = pure (.type "method_descriptor")) (hm : MtR X id r) (sn : SnM D r g) (hK : D.K = X.K)
    (ho : RN D W X o mo) (ha : RA D W X (e :: es) ms)
    (hbase : attributeBase o name X.env (eval o X.env) = eval o X.env := by rfl)
    (hfew : ((backTo pos (starEach (e :: es) X.env)).all (fun x => !x.1) && (backToKw pos (keywordEach [] X.env)).all (fun x => x.1.isSome) && decide ((e :: es).length + ([] : List Keyword).length + (if ([] : List Keyword).isEmpty then 0 else 1) < 30)) = true := by rfl)
    (hline : (apos.endLine == pos.line) = true := by rfl) (hs : starEach (e :: es) X.env = (false, eval e X.env) :: starEach es X.env := by rfl) (hplain : (backTo pos (starEach es X.env)).any (·.1) = false := by rfl) :
    RE D W X (.Call (.Attribute o name apos) (e :: es) [] pos) (tmpM g mo ms) :=
  (pe_bm PySem.F.plainAttrs_list slot hty hm ho ha hbase hfew hline hs hplain).imp (hK ▸ tmp_le sn)
theorem re_tm0 {name : Str} {id : String} {r : V → List V → Hp → VK → Prop} {g : List PV → List PV → Option (PV × List PV)} (slot : PySem.Slot "list" name id) (hty : typeOf (.builtin id) = pure (.type "method_descriptor")) (hm : MtR X id r) (sn : SnM D r g) (hK : D.K = X.K)
    (ho : RN D W X o mo) (hbase : attributeBase o name X.env (eval o X.env) = eval o X.env := by rfl) (hline : (apos.endLine == pos.line) = true := by rfl) :
    RE D W X (.Call (.Attribute o name apos) [] [] pos) (tmpM g mo argNil) :=
  (pe_bm0 PySem.F.plainAttrs_list slot hty hm ho hbase hline).imp fun σ H Q h => by
    obtain ⟨G, ρ, A, k⟩ := (hK ▸ tmp_le sn σ H Q h : tBM X.K "list" r (tN D W mo) (tA D W argNil) σ H Q)
    refine ⟨G, ρ, A, k.mono fun m ρ' G' H' n f ad ga ha rm no => ?_⟩
    obtain ⟨t, G2, ρ2, A2, k2⟩ := f ad ga ha rm no
    exact ⟨t, k2 G2 H' (Nx.refl A2) [] rfl⟩
def tmv (g : List PV → List PV → Option (PV × List PV)) (xs : List PV) : Option (List PV) → Ev → Out PV
  | some args, ρ => lift ((g xs args).map (·.1)) ρ
  | none, _ => .stuck
@[simp] theorem tmv_some (g : List PV → List PV → Option (PV × List PV)) (xs args : List PV) (ρ : Ev) : tmv g xs (some args) ρ = lift ((g xs args).map (·.1)) ρ := (rfl)
def kTm2 (g : List PV → List PV → Option (PV × List PV)) (xs : List PV) : List AV → Ev → Out PV := fun as ρ => tmv g xs (vals as) ρ
@[simp] theorem kTm2_ (g : List PV → List PV → Option (PV × List PV)) (xs : List PV) (as : List AV) (ρ : Ev) : kTm2 g xs as ρ = tmv g xs (vals as) ρ := (rfl)
def kTm1 (g : List PV → List PV → Option (PV × List PV)) (ms : EM (List AV)) : MO → Ev → Out PV
  | .lst xs, ρ => (ms ρ).bind (kTm2 g xs)
  | _, _ => .stuck
@[simp] theorem kTm1_ (g : List PV → List PV → Option (PV × List PV)) (ms : EM (List AV)) (xs : List PV) (ρ : Ev) : kTm1 g ms (.lst xs) ρ = (ms ρ).bind (kTm2 g xs) := (rfl)
@[simp] theorem ev_tmpM (g : List PV → List PV → Option (PV × List PV)) (mo : EM MO) (ms : EM (List AV)) (ρ : Ev) : tmpM g mo ms ρ = (mo ρ).bind (kTm1 g ms) := by
  unfold tmpM
  congr 1
  funext m ρ
  cases m with
  | lst xs =>
    show (ms ρ).bind _ = (ms ρ).bind _
    congr 1
    funext as ρ
    show _ = tmv g xs (vals as) ρ
    cases vals as with
    | none => rfl
    | some args =>
      show _ = lift ((g xs args).map (·.1)) ρ
      dsimp only
      cases g xs args <;> rfl
  | _ => rfl

/-! ### clauses -/
theorem exm_mk {K : PySem.W.Frag} {C : Addr} {t : Value} {b : Bool} (h1 : PySem.W.subIn K (.ref C) (.type "BaseException") = some true) (h2 : PySem.W.isClsIn K C = true) (h3 : PySem.W.typeIn K (.ref C) = some (.type "type")) (h4 : PySem.W.subIn K t (.ref C) = some b) : PySem.W.exmOne K t (.ref C) = some b := by
  have q : ((PySem.W.clsIn K C).isSome && PySem.W.typeIn K (.ref C) == some (.type "type")) = true := by
    rw [h3]
    have : (PySem.W.clsIn K C).isSome = true := h2
    rw [this]
    rfl
  unfold PySem.W.exmOne
  rw [h1]
  show (if (some true == some true) = true then PySem.W.kitCls K t (.ref C) else none) = _
  rw [if_pos (by decide)]
  unfold PySem.W.kitCls
  dsimp only
  rw [if_pos q]
  exact h4
/-! ### sorted texts -/
def leS (a b : Str) : Bool := !decide (b.cps.toList < a.cps.toList)
def insS (x : Str) : List Str → List Str
  | [] => [x]
  | y :: r => if leS x y then x :: y :: r else y :: insS x r
def sortS : List Str → List Str
  | [] => []
  | x :: r => insS x (sortS r)
theorem insS_perm (x : Str) : ∀ l : List Str, (insS x l).Perm (x :: l)
  | [] => .refl _
  | y :: r => by
    rw [insS]
    split
    · exact .refl _
    · exact ((insS_perm x r).cons y).trans (.swap x y r)
theorem sortS_perm : ∀ l : List Str, (sortS l).Perm l
  | [] => .refl _
  | x :: r => (insS_perm x _).trans ((sortS_perm r).cons x)
theorem leS_total (a b : Str) : leS a b = false → leS b a = true := fun h => by
  unfold leS at *
  simp only [Bool.not_eq_false', decide_eq_true_eq, Bool.not_eq_true', decide_eq_false_iff_not] at *
  exact fun z => List.lt_asymm h z
theorem leS_trans {a b c : Str} (h : leS a b = true) (k : leS b c = true) : leS a c = true := by
  unfold leS at *
  simp only [Bool.not_eq_true', decide_eq_false_iff_not, List.not_lt] at *
  exact List.le_trans h k
theorem leS_anti {a b : Str} (h : leS a b = true) (k : leS b a = true) : a = b := by
  unfold leS at *
  simp only [Bool.not_eq_true', decide_eq_false_iff_not, List.not_lt] at *
  exact L_inj (List.le_antisymm h k)
theorem insS_sorted (x : Str) : ∀ {l : List Str}, l.Pairwise (fun a b => leS a b = true) → (insS x l).Pairwise (fun a b => leS a b = true)
  | [], _ => List.pairwise_singleton _ _
  | y :: r, h => by
    rw [insS]
    obtain ⟨h1, h2⟩ := List.pairwise_cons.mp h
    split
    · rename_i hx
      refine List.pairwise_cons.mpr ⟨fun z hz => ?_, h⟩
      rcases List.mem_cons.mp hz with rfl | hz
      · exact hx
      · exact leS_trans hx (h1 z hz)
    · rename_i hx
      refine List.pairwise_cons.mpr ⟨fun z hz => ?_, insS_sorted x h2⟩
      rcases List.mem_cons.mp ((insS_perm x r).mem_iff.mp hz) with rfl | hz
      · exact leS_total _ _ (Bool.eq_false_iff.mpr hx)
      · exact h1 z hz
theorem sortS_sorted : ∀ l : List Str, (sortS l).Pairwise (fun a b => leS a b = true)
  | [] => .nil
  | x :: r => insS_sorted x (sortS_sorted r)
theorem ltCps_dec : ∀ a b : List Nat, ltCps a b = decide (a < b)
  | [], [] => by rfl
  | [], _ :: _ => by rfl
  | _ :: _, [] => by rfl
  | a :: as, b :: bs => by
    rw [ltCps, ltCps_dec as bs, Bool.eq_iff_iff]
    simp [List.cons_lt_cons_iff]
theorem risingS_iff : ∀ (l : List Str) (p : Str), PyProof.Rows.risingS p l = true → (p :: l).Pairwise (fun a b => leS a b = true)
  | [], p, _ => List.pairwise_singleton _ _
  | x :: r, p, h => by
    rw [PyProof.Rows.risingS, Bool.and_eq_true] at h
    have h2 := risingS_iff r x h.2
    have h1 : leS p x = true := by
      unfold leS
      rw [← ltCps_dec]
      exact h.1
    refine List.pairwise_cons.mpr ⟨fun z hz => ?_, h2⟩
    rcases List.mem_cons.mp hz with rfl | hz
    · exact h1
    · exact leS_trans h1 ((List.pairwise_cons.mp h2).1 z hz)
theorem sorted_unique {ys xs : List Str} (hp : ys.Perm xs) (hs : PyProof.Rows.sortedS ys = true) : ys = sortS xs := by
  have h1 : ys.Pairwise (fun a b => leS a b = true) := by
    cases ys with
    | nil => exact .nil
    | cons y r => exact risingS_iff r y hs
  exact (hp.trans (sortS_perm xs).symm).eq_of_pairwise (fun a b _ _ h k => leS_anti h k) h1 (sortS_sorted xs)
def bSorted : List PV → Option PV
  | [.lst xs] => (strsOf xs).bind fun ss => if ss.length < 64 then some (.lst ((sortS ss).map .str)) else none
  | _ => none
theorem strsL_rep : ∀ {xs : List PV} {ss : List Str} {vs : List V}, strsOf xs = some ss → Reps D G xs vs → vs = ss.map V.str
  | [], _, _, e, r => by cases e; rw [show _ = [] from r]; rfl
  | x :: xs, ss, _, e, r => by
    obtain ⟨v, vs, rfl, r1, r2⟩ := r
    cases x with
    | str s =>
      rw [strsOf] at e
      cases h : strsOf xs with
      | none => rw [h] at e; cases e
      | some ts =>
        rw [h] at e
        cases e
        rw [strsL_rep h r2, show v = V.str s from r1]
        rfl
    | _ => cases e
theorem reps_strs (G : Hp) : ∀ ss : List Str, Reps D G (ss.map .str) (ss.map V.str)
  | [] => rfl
  | s :: ss => ⟨_, _, rfl, rfl, reps_strs G ss⟩
theorem sn_sorted : SnC D (rSortedS D.K) bSorted := by
  intro G H xs z vs Q le rs e q
  unfold bSorted at e
  split at e
  · rename_i xs
    obtain ⟨v, rfl, r⟩ := one_h rs
    obtain ⟨ss, h1, h2⟩ := Option.bind_eq_some_iff.mp e
    split at h2
    · rename_i hl
      cases h2
      obtain ⟨ad, vs, rfl, hq, r2⟩ := r
      refine ⟨ad, ss, rfl, (strsL_rep h1 r2) ▸ hq, hl, fun ys p hp hs hn => ?_⟩
      rw [sorted_unique hp hs]
      have gr := Grow.new (o := .lst ((sortS ss).map V.str)) le hn
      exact q _ _ _ gr ⟨p, _, rfl, .inl (.inl upd_same), reps_strs _ _⟩
    · cases h2
  · cases e
theorem re_sorted (hK : D.K = X.K) (hg : Gl X "sorted") (hm : X.mg "sorted" = none) (ha : RA D W X (e :: es) ms)
    (he : starEach (e :: es) X.env = (false, eval e X.env) :: starEach es X.env := by rfl) (hpl : (backTo p2 (starEach es X.env)).any (·.1) = false := by rfl) : RE D W X (.Call (.Name "sorted" p) (e :: es) [] p2) (callB bSorted ms) :=
  re_callB cr_sortedS (hK ▸ sn_sorted) hg hm PyProof.Rows.boot_sorted ha (by decide) (by decide) he hpl
@[simp] theorem sorted_lst (ss : List Str) : bSorted [.lst (ss.map .str)] = if ss.length < 64 then some (.lst ((sortS ss).map .str)) else none := by
  show (strsOf (ss.map .str)).bind _ = _
  rw [strsOf_map]
  rfl
end
end TR

set_option Elab.async false
set_option linter.all false
set_option maxRecDepth 100000
/-! TRZH: == and in of nested plain data. -/
namespace TR
open PySem PySem.Spec L2
set_option autoImplicit false
mutual
/-- plain data with real texts, at most n deep -/
def Dat : Nat → PV → Prop
  | _, .non => True
  | _, .bl _ => True
  | _, .int _ => True
  | _, .str s => Uni s
  | n + 1, .lst xs => Dats n xs
  | n + 1, .tup xs => Dats n xs
  | _, _ => False
def Dats : Nat → List PV → Prop
  | _, [] => True
  | n, x :: xs => Dat n x ∧ Dats n xs
end
mutual
def eqP : PV → PV → Bool
  | .non, .non => true
  | .bl a, .bl b => a == b
  | .bl a, .int j => (if a then 1 else 0) == j
  | .int i, .bl b => i == (if b then 1 else 0)
  | .int i, .int j => i == j
  | .str x, .str y => x == y
  | .lst xs, .lst ys => eqPs xs ys
  | .tup xs, .tup ys => eqPs xs ys
  | _, _ => false
def eqPs : List PV → List PV → Bool
  | [], [] => true
  | x :: xs, y :: ys => eqP x y && eqPs xs ys
  | _, _ => false
end
mutual
theorem dat_toD : ∀ (n : Nat) (x : PV), Dat n x → ∃ d, x.toD = some d ∧ d.canLay0 = true ∧ d.depth ≤ n
  | n, .non, _ => ⟨.none, rfl, rfl, by simp [PyData.depth]⟩
  | n, .bl _, _ => ⟨.bool _, rfl, rfl, by simp [PyData.depth]⟩
  | n, .int _, _ => ⟨.int _, rfl, rfl, by simp [PyData.depth]⟩
  | n, .str s, h => ⟨.str s, rfl, uni_ok (by cases n <;> exact h), by simp [PyData.depth]⟩
  | n + 1, .lst xs, h => by
    obtain ⟨ds, e, k, l⟩ := dats_toD n xs h
    exact ⟨.list ds, by rw [PV.toD, e]; rfl, by rw [PyData.canLay0]; exact k, by rw [PyData.depth]; omega⟩
  | n + 1, .tup xs, h => by
    obtain ⟨ds, e, k, l⟩ := dats_toD n xs h
    exact ⟨.tuple ds, by rw [PV.toD, e]; rfl, by rw [PyData.canLay0]; exact k, by rw [PyData.depth]; omega⟩
  | 0, .lst _, h => h.elim
  | 0, .tup _, h => h.elim
  | 0, .dct _, h => h.elim
  | n + 1, .dct _, h => h.elim
  | 0, .obj _ _, h => h.elim
  | n + 1, .obj _ _, h => h.elim
theorem dats_toD : ∀ (n : Nat) (xs : List PV), Dats n xs → ∃ ds, toDs xs = some ds ∧ PyData.canLayAll0 ds = true ∧ PyData.depthAll ds ≤ n
  | n, [], _ => ⟨[], rfl, rfl, by simp [PyData.depthAll]⟩
  | n, x :: xs, h => by
    rw [Dats] at h
    obtain ⟨d, e1, k1, l1⟩ := dat_toD n x h.1
    obtain ⟨ds, e2, k2, l2⟩ := dats_toD n xs h.2
    refine ⟨d :: ds, by rw [toDs, e1, e2], ?_, ?_⟩
    · rw [PyData.canLayAll0, k1, k2]; rfl
    · rw [PyData.depthAll]; omega
end
mutual
theorem eqv_eqP : ∀ (x y : PV) (d e : PyData), x.toD = some d → y.toD = some e → PyData.eqv d e = eqP x y
  | x, y, d, e, hx, hy => by
    cases x with
    | lst xs =>
      rw [PV.toD] at hx
      cases h1 : toDs xs with
      | none => rw [h1] at hx; cases hx
      | some ds =>
        rw [h1] at hx; cases hx
        cases y with
        | lst ys =>
          rw [PV.toD] at hy
          cases h2 : toDs ys with
          | none => rw [h2] at hy; cases hy
          | some es =>
            rw [h2] at hy; cases hy
            rw [PyData.eqv, eqP]
            exact eqvs_eqPs xs ys ds es h1 h2
        | tup ys =>
          rw [PV.toD] at hy
          cases h2 : toDs ys with
          | none => rw [h2] at hy; cases hy
          | some es => rw [h2] at hy; cases hy; simp [PyData.eqv, eqP]
        | dct _ => cases hy
        | obj _ _ => cases hy
        | _ => cases hy; simp [PyData.eqv, eqP]
    | tup xs =>
      rw [PV.toD] at hx
      cases h1 : toDs xs with
      | none => rw [h1] at hx; cases hx
      | some ds =>
        rw [h1] at hx; cases hx
        cases y with
        | tup ys =>
          rw [PV.toD] at hy
          cases h2 : toDs ys with
          | none => rw [h2] at hy; cases hy
          | some es =>
            rw [h2] at hy; cases hy
            rw [PyData.eqv, eqP]
            exact eqvs_eqPs xs ys ds es h1 h2
        | lst ys =>
          rw [PV.toD] at hy
          cases h2 : toDs ys with
          | none => rw [h2] at hy; cases hy
          | some es => rw [h2] at hy; cases hy; simp [PyData.eqv, eqP]
        | dct _ => cases hy
        | obj _ _ => cases hy
        | _ => cases hy; simp [PyData.eqv, eqP]
    | dct _ => cases hx
    | obj _ _ => cases hx
    | _ =>
      cases hx
      cases y with
      | lst ys =>
        rw [PV.toD] at hy
        cases h2 : toDs ys with
        | none => rw [h2] at hy; cases hy
        | some es => rw [h2] at hy; cases hy; simp [PyData.eqv, eqP]
      | tup ys =>
        rw [PV.toD] at hy
        cases h2 : toDs ys with
        | none => rw [h2] at hy; cases hy
        | some es => rw [h2] at hy; cases hy; simp [PyData.eqv, eqP]
      | dct _ => cases hy
      | obj _ _ => cases hy
      | _ => cases hy; simp [PyData.eqv, eqP]
  termination_by x => sizeOf x
theorem eqvs_eqPs : ∀ (xs ys : List PV) (ds es : List PyData), toDs xs = some ds → toDs ys = some es → PyData.eqvAll ds es = eqPs xs ys
  | [], [], ds, es, hx, hy => by cases hx; cases hy; simp [PyData.eqvAll, eqPs]
  | [], y :: ys, ds, es, hx, hy => by
    cases hx
    rw [toDs] at hy
    cases h1 : y.toD with
    | none => rw [h1] at hy; cases hy
    | some e =>
      cases h2 : toDs ys with
      | none => rw [h1, h2] at hy; cases hy
      | some r => rw [h1, h2] at hy; cases hy; simp [PyData.eqvAll, eqPs]
  | x :: xs, [], ds, es, hx, hy => by
    cases hy
    rw [toDs] at hx
    cases h1 : x.toD with
    | none => rw [h1] at hx; cases hx
    | some e =>
      cases h2 : toDs xs with
      | none => rw [h1, h2] at hx; cases hx
      | some r => rw [h1, h2] at hx; cases hx; simp [PyData.eqvAll, eqPs]
  | x :: xs, y :: ys, ds, es, hx, hy => by
    rw [toDs] at hx hy
    cases h1 : x.toD with
    | none => rw [h1] at hx; cases hx
    | some d =>
      cases h2 : toDs xs with
      | none => rw [h1, h2] at hx; cases hx
      | some dr =>
        rw [h1, h2] at hx; cases hx
        cases h3 : y.toD with
        | none => rw [h3] at hy; cases hy
        | some e =>
          cases h4 : toDs ys with
          | none => rw [h3, h4] at hy; cases hy
          | some er =>
            rw [h3, h4] at hy; cases hy
            rw [PyData.eqvAll, eqPs, eqv_eqP x y d e h1 h3, eqvs_eqPs xs ys dr er h2 h4]
  termination_by xs => sizeOf xs
end
theorem dat_some {n : Nat} {x : PV} (h : Dat n x) (hn : n ≤ 64) : ∃ d, x.toD = some d ∧ x.dat = some d := by
  obtain ⟨d, e, k, l⟩ := dat_toD n x h
  refine ⟨d, e, ?_⟩
  have s : SeqAt.shaped d = true := by
    unfold SeqAt.shaped
    rw [Bool.and_eq_true, decide_eq_true_eq]
    exact ⟨k, by omega⟩
  unfold PV.dat
  simp only [e, s, if_true]
theorem scalE_eqP {x y : PV} {k : Bool} (h : scalE x y = some k) : eqP x y = k := by
  unfold scalE at h
  split at h <;> first | (cases h; simp [eqP]; done) | (cases h; simp only [eqP]; exact Bool.beq_eq_decide_eq _ _) | cases h
/-- == of plain data -/
theorem eqQ_dat {n m : Nat} {x y : PV} (hx : Dat n x) (hy : Dat m y) (hn : n ≤ 64) (hm : m ≤ 64) : eqQ x y = some (eqP x y) := by
  unfold eqQ
  cases h : scalE x y with
  | some k => rw [scalE_eqP h]
  | none =>
    obtain ⟨d, e1, e2⟩ := dat_some hx hn
    obtain ⟨e, f1, f2⟩ := dat_some hy hm
    show eqD x y = _
    unfold eqD
    rw [e2, f2]
    show some (PyData.eqv d e) = _
    rw [eqv_eqP x y d e e1 f1]
theorem eq_dat {n m : Nat} {x y : PV} (hx : Dat n x) (hy : Dat m y) (hn : n ≤ 64 := by decide) (hm : m ≤ 64 := by decide) : pyEq x y = some (.bl (eqP x y)) := by
  unfold pyEq; rw [eqQ_dat hx hy hn hm]; rfl
theorem ne_dat {n m : Nat} {x y : PV} (hx : Dat n x) (hy : Dat m y) (hn : n ≤ 64 := by decide) (hm : m ≤ 64 := by decide) : pyNe x y = some (.bl (!eqP x y)) := by
  unfold pyNe; rw [eqQ_dat hx hy hn hm]; rfl
mutual
theorem eqP_refl : ∀ (n : Nat) (x : PV), Dat n x → eqP x x = true
  | n, .non, _ => by simp [eqP]
  | n, .bl _, _ => by simp [eqP]
  | n, .int _, _ => by simp [eqP]
  | n, .str s, h => by simp [eqP]
  | n + 1, .lst xs, h => by rw [eqP]; exact eqPs_refl n xs h
  | n + 1, .tup xs, h => by rw [eqP]; exact eqPs_refl n xs h
  | 0, .lst _, h => h.elim
  | 0, .tup _, h => h.elim
  | 0, .dct _, h => h.elim
  | n + 1, .dct _, h => h.elim
  | 0, .obj _ _, h => h.elim
  | n + 1, .obj _ _, h => h.elim
theorem eqPs_refl : ∀ (n : Nat) (xs : List PV), Dats n xs → eqPs xs xs = true
  | n, [], _ => by simp [eqPs]
  | n, x :: xs, h => by
    rw [Dats] at h
    rw [eqPs, eqP_refl n x h.1, eqPs_refl n xs h.2]
    rfl
end
mutual
theorem Dat.up : ∀ {n m : Nat} {x : PV}, Dat n x → n ≤ m → Dat m x
  | n, m, .non, _, _ => by cases m <;> trivial
  | n, m, .bl _, _, _ => by cases m <;> trivial
  | n, m, .int _, _, _ => by cases m <;> trivial
  | n, m, .str s, h, _ => by
    have h' : Uni s := by cases n <;> exact h
    cases m <;> exact h'
  | n + 1, m + 1, .lst xs, h, l => Dats.up (xs := xs) h (by omega)
  | n + 1, m + 1, .tup xs, h, l => Dats.up (xs := xs) h (by omega)
  | n + 1, 0, .lst xs, h, l => by omega
  | n + 1, 0, .tup xs, h, l => by omega
  | 0, _, .lst _, h, _ => h.elim
  | 0, _, .tup _, h, _ => h.elim
  | 0, _, .dct _, h, _ => h.elim
  | n + 1, _, .dct _, h, _ => h.elim
  | 0, _, .obj _ _, h, _ => h.elim
  | n + 1, _, .obj _ _, h, _ => h.elim
theorem Dats.up : ∀ {n m : Nat} {xs : List PV}, Dats n xs → n ≤ m → Dats m xs
  | n, m, [], _, _ => trivial
  | n, m, x :: xs, h, l => ⟨Dat.up (x := x) h.1 l, Dats.up (xs := xs) h.2 l⟩
end
theorem dats_iff {n : Nat} : ∀ {xs : List PV}, Dats n xs ↔ ∀ x ∈ xs, Dat n x
  | [] => ⟨fun _ x h => (by cases h), fun _ => trivial⟩
  | x :: xs => by
    rw [Dats, dats_iff (xs := xs)]
    constructor
    · rintro ⟨h, k⟩ y hy
      rcases List.mem_cons.mp hy with rfl | hy
      · exact h
      · exact k y hy
    · exact fun h => ⟨h x List.mem_cons_self, fun y hy => h y (List.mem_cons_of_mem _ hy)⟩
theorem dat_tup1 {n : Nat} {xs : List PV} (h : ∀ x ∈ xs, Dat n x) : Dat (n + 1) (.tup xs) := dats_iff.mpr h
theorem dat_lst1 {n : Nat} {xs : List PV} (h : ∀ x ∈ xs, Dat n x) : Dat (n + 1) (.lst xs) := dats_iff.mpr h
@[simp] theorem Dat_str (n : Nat) (s : Str) : Dat n (.str s) = Uni s := by cases n <;> rfl
@[simp] theorem Dat_int (n : Nat) (s : Int) : Dat n (.int s) = True := by cases n <;> rfl
@[simp] theorem Dat_bl (n : Nat) (s : Bool) : Dat n (.bl s) = True := by cases n <;> rfl
@[simp] theorem Dat_non (n : Nat) : Dat n .non = True := by cases n <;> rfl
@[simp] theorem Dat_tup (n : Nat) (xs : List PV) : Dat (n + 1) (.tup xs) = Dats n xs := rfl
@[simp] theorem Dat_lst (n : Nat) (xs : List PV) : Dat (n + 1) (.lst xs) = Dats n xs := rfl
@[simp] theorem Dats_nil (n : Nat) : Dats n [] = True := by rw [Dats]
@[simp] theorem Dats_cons (n : Nat) (x : PV) (xs : List PV) : Dats n (x :: xs) = (Dat n x ∧ Dats n xs) := by rw [Dats]
/-! ### evaluation of == -/
@[simp] theorem eqP_nn : eqP .non .non = true := by simp [eqP]
@[simp] theorem eqP_bb (a b : Bool) : eqP (.bl a) (.bl b) = (a == b) := by simp [eqP]
@[simp] theorem eqP_ii (i j : Int) : eqP (.int i) (.int j) = (i == j) := by simp [eqP]
@[simp] theorem eqP_ss (x y : Str) : eqP (.str x) (.str y) = decide (x = y) := by simp only [eqP]; exact Bool.beq_eq_decide_eq _ _
@[simp] theorem eqP_ll (xs ys : List PV) : eqP (.lst xs) (.lst ys) = eqPs xs ys := by simp [eqP]
@[simp] theorem eqP_tt (xs ys : List PV) : eqP (.tup xs) (.tup ys) = eqPs xs ys := by simp [eqP]
@[simp] theorem eqP_sn (x : Str) : eqP (.str x) .non = false := by simp [eqP]
@[simp] theorem eqP_ns (x : Str) : eqP .non (.str x) = false := by simp [eqP]
@[simp] theorem eqP_in (x : Int) : eqP (.int x) .non = false := by simp [eqP]
@[simp] theorem eqP_ni (x : Int) : eqP .non (.int x) = false := by simp [eqP]
@[simp] theorem eqP_is (x : Int) (y : Str) : eqP (.int x) (.str y) = false := by simp [eqP]
@[simp] theorem eqP_si (x : Int) (y : Str) : eqP (.str y) (.int x) = false := by simp [eqP]
@[simp] theorem eqP_bn (x : Bool) : eqP (.bl x) .non = false := by simp [eqP]
@[simp] theorem eqP_nb (x : Bool) : eqP .non (.bl x) = false := by simp [eqP]
@[simp] theorem eqP_bs (x : Bool) (y : Str) : eqP (.bl x) (.str y) = false := by simp [eqP]
@[simp] theorem eqP_sb (x : Bool) (y : Str) : eqP (.str y) (.bl x) = false := by simp [eqP]
@[simp] theorem eqPs_nil : eqPs [] [] = true := by simp [eqPs]
@[simp] theorem eqPs_cons (x y : PV) (xs ys : List PV) : eqPs (x :: xs) (y :: ys) = (eqP x y && eqPs xs ys) := by simp [eqPs]
@[simp] theorem eqPs_cn (x : PV) (xs : List PV) : eqPs (x :: xs) [] = false := by simp [eqPs]
@[simp] theorem eqPs_nc (x : PV) (xs : List PV) : eqPs [] (x :: xs) = false := by simp [eqPs]
/-- in, of plain data -/
theorem any_eqP : ∀ (xs : List PV) (ds : List PyData) (x : PV) (d : PyData), toDs xs = some ds → x.toD = some d → (ds.any fun z => PyData.eqv z d) = xs.any fun z => eqP z x
  | [], ds, x, d, h, _ => by cases h; rfl
  | y :: ys, ds, x, d, h, hx => by
    rw [toDs] at h
    cases h1 : y.toD with
    | none => rw [h1] at h; cases h
    | some e =>
      cases h2 : toDs ys with
      | none => rw [h1, h2] at h; cases h
      | some er =>
        rw [h1, h2] at h; cases h
        rw [List.any_cons, List.any_cons, any_eqP ys er x d h2 hx, eqv_eqP y x e d h1 hx]
theorem inL_dat {n m : Nat} {x : PV} {xs : List PV} (hx : Dat n x) (hy : Dats m xs) (hn : n ≤ 64 := by decide) (hm : m ≤ 63 := by decide) : inQ x (.lst xs) = some (xs.any fun z => eqP z x) := by
  obtain ⟨d, e1, e2⟩ := dat_some hx hn
  obtain ⟨ds, h1, h2, h3⟩ := dats_toD m xs hy
  obtain ⟨e, f1, f2⟩ := dat_some (n := m + 1) (x := .lst xs) hy (by omega)
  have f1' : (PV.lst xs).toD = some (.list ds) := by rw [PV.toD, h1]; rfl
  rw [f1'] at f1
  cases f1
  rw [inQ, e2, f2]
  show some (ds.any fun z => PyData.eqv z d) = _
  rw [any_eqP xs ds x d h1 e1]
theorem inT_dat {n m : Nat} {x : PV} {xs : List PV} (hx : Dat n x) (hy : Dats m xs) (hn : n ≤ 64 := by decide) (hm : m ≤ 63 := by decide) : inQ x (.tup xs) = some (xs.any fun z => eqP z x) := by
  obtain ⟨d, e1, e2⟩ := dat_some hx hn
  obtain ⟨ds, h1, h2, h3⟩ := dats_toD m xs hy
  obtain ⟨e, f1, f2⟩ := dat_some (n := m + 1) (x := .tup xs) hy (by omega)
  have f1' : (PV.tup xs).toD = some (.tuple ds) := by rw [PV.toD, h1]; rfl
  rw [f1'] at f1
  cases f1
  rw [inQ, e2, f2]
  show some (ds.any fun z => PyData.eqv z d) = _
  rw [any_eqP xs ds x d h1 e1]
end TR

set_option Elab.async false
set_option linter.all false
set_option maxRecDepth 100000
/-! TRZI: enumerate of lists and tuples. -/
namespace TR
open PySem PySem.Spec L2
set_option autoImplicit false
section
set_option maxHeartbeats 1000000
/-- enumerate(v), one argument, over anything that begins -/
theorem enum_new1 {v : Value} {o : Obj} {P : Heap → Prop} (B : Begins v o P) : Meets (Builtin.«enumerate.__new__» ⟨[.type "enumerate", v], []⟩) (fun _ R s => P s.heap ∧
      R (.ok (.ret (.ref (s.heap.push o).objs.size))) { s with heap := (s.heap.push o).push { cls := .type "enumerate", data := .fields #[.none, .bool false, .ref s.heap.objs.size, rawInt 0, .none, .none] } }) :=
  .of_wp fun prog w A R s h => by
    obtain ⟨hp, g, d, tk, os⟩ := s
    obtain ⟨h1, h⟩ := h
    have hs := sub_enumerate
    have it : ∀ {A' : Around} {E : Value → Shared → Prop} {Q : Value → Shared → Prop}, Q (.ref hp.objs.size) ⟨hp.push o, g, d, tk, os⟩ → wpAny (model prog w) A' (pyIter v) Q E ⟨hp, g, d, tk, os⟩ := fun q => B.iter prog w _ _ ⟨hp, g, d, tk, os⟩ _ h1 q
    wp_walk using it
    refine wpAny_stack_any fun st => wpAny_pure ?_
    split
    · rename_i c _ _ _ _ _
      cases (c == Value.type "enumerate") <;>
      · wp_walk using it
        exact ⟨_, rfl, h⟩
    · wp_walk using it
      exact ⟨_, rfl, h⟩
theorem enum_call1 {prog : Program} {w : World} {A : Around} {E : Value → Shared → Prop} {s : Shared} {v : Value} {o : Obj} {P : Heap → Prop} {Q : Value → Shared → Prop} (B : Begins v o P) (h1 : P s.heap)
    (h : ∀ h', IsEnum h' (s.heap.objs.size + 1) s.heap.objs.size 0 .none → h'.get? s.heap.objs.size = some o → (∀ b o, s.heap.get? b = some o → h'.get? b = some o) → Q (.ref (s.heap.objs.size + 1)) { s with heap := h' }) :
    wpAny (model prog w) A (call (.type "enumerate") [v]) Q E s := by
  have sz : (s.heap.push o).objs.size = s.heap.objs.size + 1 := Heap.size_push ..
  refine callType_new F.called_enumerate (by decide) (F.typeCall_enumerate_1 _) (F.newCall_enumerate_1 _) (fun obj => F.args_object_init_2 obj _) F.entry_enumerate_new (enum_new1 B) ⟨h1, ?_⟩
  show _ ∧ _
  rw [sz]
  have he : IsEnum ((s.heap.push o).push { cls := .type "enumerate", data := .fields #[.none, .bool false, .ref s.heap.objs.size, rawInt 0, .none, .none] }) (s.heap.objs.size + 1) s.heap.objs.size 0 .none := by
    have := Heap.get?_push_size (s.heap.push o) (o := { cls := .type "enumerate", data := .fields #[.none, .bool false, .ref s.heap.objs.size, rawInt 0, .none, .none] }) rfl
    rw [sz] at this
    exact this
  exact ⟨⟨_, he, rfl⟩, h _ he (Heap.get?_push_of_some _ (Heap.get?_push_size _ B.free)) fun b o x => Heap.get?_push_of_some _ (Heap.get?_push_of_some _ x)⟩
end
/-- the tuple at a, its items in new pairs -/
def Iten (K : PySem.W.Frag) (a : Addr) : It :=
  ⟨fun i H => ∃ (xs : List V) (x : V), SqT K H a xs ∧ xs[i]? = some x, fun i H v H' => ∃ T x, v = .ref T ∧ H T = none ∧ H' = upd H T (.tup [.int (i : Nat), x]) ∧ ∀ xs, SqT K H a xs → xs[i]? = some x, fun i H => ∃ xs : List V, SqT K H a xs ∧ xs.length ≤ i⟩
theorem turn_en {P : Program} {w : World} {K : PySem.W.Frag} {elts : List Expr} {kk : Nat} {tpos : Pos} (a e it : Addr) :
    Turn P w K (.Tuple elts kk tpos) (Iten K a) [e, it] e (fun i h => (∃ old, IsEnum h e it ((i : Nat) : Int) old) ∧ h.IsTupleIter it a i ∧ e ≠ it ∧ a ≠ it ∧ e ≠ a) where
  mem := by simp
  obj := fun i h st b hb => by
    obtain ⟨⟨old, he⟩, ⟨o, ho, hc, hd⟩, _⟩ := st
    simp only [List.mem_cons, List.not_mem_nil, or_false] at hb
    rcases hb with rfl | rfl
    · exact ⟨_, he, fun v q => nomatch q⟩
    · exact ⟨o, ho, fun v q => by rw [hd] at q; cases q⟩
  keep := fun i h h' st k => by
    obtain ⟨⟨old, he⟩, hi, hne⟩ := st
    exact ⟨⟨old, k e (by simp) _ he⟩, hi.at fun o q => k it (by simp) o q, hne⟩
  item := by
    intro X hP hw hK hc i pins s σ H E I hf st hg
    subst hP hw hK
    obtain ⟨⟨old, he⟩, hit, hne, hai, hea⟩ := st
    obtain ⟨xs, x, hq, hx⟩ := hg
    obtain ⟨its, rv, p, hz⟩ := I.tuple hq
    obtain ⟨u, hu, ru⟩ := rv.get hx
    have el : e < s.heap.objs.size := Heap.lt_size he
    have il : it < s.heap.objs.size := by obtain ⟨_, q, _⟩ := hit; exact Heap.lt_size q
    have lt : i < its.toArray.size := by
      have := (List.getElem?_eq_some_iff.mp hu).1
      simpa using this
    refine wpAny_pyNext_enum_itemD (Draws.tuple (A := X.A.in1) (I.ok.hd hc) it a hai its.toArray) he ⟨hit, p⟩ lt hne (by simp [hne, hea]) fun y h' tk py ho st' hT hsz hk => ?_
    have ey : y = u := by
      rw [List.getElem?_toArray, hu] at py
      exact (Option.some.inj py).symm
    subst ey
    refine ⟨_, rfl, wpAny_letOwnedTupleGo_enum (s := { s with heap := h', toks := tk + 1 }) ho fun h'' he' sb => ?_⟩
    have hT2 : h''.get? s.heap.objs.size = some { cls := .type "tuple", data := .seq #[.int i tk, y] } := (sb.2 _ (Nat.ne_of_gt el)).trans hT
    have new : ObjOk X.prog X.w (upd H s.heap.objs.size (.tup [.int (i : Nat), x])) h'' s.heap.objs.size (.tup [.int (i : Nat), x]) :=
      ⟨by show 2 ≤ sizeLine; decide, [.int i tk, y], .cons ⟨_, rfl⟩ (.cons ru .nil), ⟨_, hT2, rfl, _, rfl⟩⟩
    have I1 : Inv X pins σ (upd H s.heap.objs.size (.tup [.int (i : Nat), x])) { s with heap := h'', toks := tk + 1 } :=
      I.turnedNew (ch := [e, it]) (fun b ob hb q => (sb.2 b (fun z => hb (by simp [z]))).trans (hk b ob (fun z => hb (by simp [z])) (fun z => hb (by simp [z])) q)) hf (Nat.le_refl _) new
    refine ⟨.ref s.heap.objs.size, _, I1, rfl, ⟨_, x, rfl, I.hok.fresh (Nat.le_refl _), rfl, fun ys hy => by rw [I.tuple_inj hy hq]; exact hx⟩, ⟨⟨y, ?_⟩, st'.1.at fun o q => (sb.2 it (Ne.symm hne)).trans q, hne, hai, hea⟩, fun b hb => ?_⟩
    · rw [show ((i + 1 : Nat) : Int) = (i : Int) + 1 by omega]
      exact he'
    · have hb' : b < s.heap.objs.size := by
        simp only [List.mem_cons, List.not_mem_nil, or_false] at hb
        rcases hb with rfl | rfl <;> assumption
      rw [upd_ne (Nat.ne_of_lt hb')]
      exact (hf b hb).1
  done := by
    intro X hP hw hK hc i pins s σ H E I hf st hg
    subst hP hw hK
    obtain ⟨⟨old, he⟩, hit, hne, hai, hea⟩ := st
    obtain ⟨xs, hq, hx⟩ := hg
    obtain ⟨its, rv, p, hz⟩ := I.tuple hq
    obtain ⟨f0, f1, f2, f3, f4, f5⟩ := hf it (by simp)
    have hl := rv.length
    have D := Draws.tuple (prog := X.prog) (w := X.w) (A := X.A.in1) (I.ok.hd hc) it a hai its.toArray
    unfold PySem.pyNext
    have hT : s.TypeIs (.ref e) "enumerate" := ⟨_, he, rfl⟩
    refine wpAny_bind (wpAny_attempt (wpAny_callSpecial?_slot (name := Str.ofString "__next__") hT F.slot_enumerate_next (wpAny_call_entry F.slot_enumerate_next hT F.entry_enumerate_next ?_ (F.args_enumerate_next_1 _))))
    show wpAny _ _ (field (.ref e) 2 >>= _) _ _ _
    refine wpAny_bind (wpAny_field he rfl (x := .ref it) rfl ?_)
    refine wpAny_bind (wpAny_nextOf_tuple_end (I.ok.hd hc) hit (show s.heap.IsTuple a its.toArray from p) (by simp; omega) fun h' ex hb hs => ?_)
    obtain ⟨o, ho, hcl⟩ := hs
    exact wpAny_bind (wpAny_isInstance (T := "StopIteration") (b := true) ⟨o, ho, hcl⟩ isSubtype_stop (wpAny_pure ⟨rfl, I.turned (t' := s.toks) (fun b o hne q => hb b o hne q) f0 f1 f3 f4 f5⟩))
  self := fun A i s Q E st h => by
    obtain ⟨⟨_, he⟩, _⟩ := st
    exact wpAny_pyIter_enum he h
def iEn (K : PySem.W.Frag) (ta : TA) : TI := fun σ H R => ta σ H fun vs H1 => ∃ a xs, vs = [.ref a] ∧ ((SqL K H1 a xs ∧ R (Ite K a) H1) ∨ (SqT K H1 a xs ∧ R (Iten K a) H1))
theorem pi_en {X : Cx} {e : Expr} {ta : TA} {p pos tpos : Pos} {elts : List Expr} {kk : Nat} (hg : Gl X "enumerate") (hm : X.mg "enumerate" = none) (ha : PA X [e] ta) (hs : starEach [e] X.env = [(false, eval e X.env)] := by rfl) :
    PI X (.Tuple elts kk tpos) (.Call (.Name "enumerate" p) [e] [] pos) (iEn X.K ta) := ⟨fun pins s σ H R I h => by
  refine PyProof.Rows.Call_ (ld_blt I hg hm PyProof.Rows.boot_enumerate (PyProof.Rows.callWith_type1 (thn (ha.run pos pins s σ H _ I h) fun us s1 hy => ?_) hs rfl))
  obtain ⟨vs, H1, I1, r1, a, xs, ex, q⟩ := hy
  subst ex
  cases r1 with
  | cons r rr =>
    cases rr
    cases r
    have fresh : ∀ b, b = s1.heap.objs.size + 1 ∨ b = s1.heap.objs.size → s1.heap.objs.size ≤ b := fun b z => by omega
    rcases q with ⟨hq, q⟩ | ⟨hq, q⟩
    · obtain ⟨its, rv, p', hz⟩ := I1.list hq
      refine call_enumerate_list p'.isList fun h' he hit hsz hk => wpAny_pyIter_enum he ?_
      have I2 : Inv X pins σ H1 { s1 with heap := h' } := I1.kept (t' := s1.toks) hk
      refine ⟨s1.heap.objs.size + 1, [s1.heap.objs.size + 1, s1.heap.objs.size], _, _, H1, rfl, I2, turn_enum a (s1.heap.objs.size + 1) s1.heap.objs.size, ⟨⟨.none, he⟩, hit, Nat.succ_ne_self _⟩, fun b hb => ?_, q⟩
      have le := fresh b (by simpa using hb)
      exact I1.fpOk le (I1.hok.fresh le)
    · obtain ⟨its, rv, p', hz⟩ := I1.tuple hq
      have la : a < s1.heap.objs.size := by
        obtain ⟨o, ho, _⟩ := id p'
        exact Heap.lt_size ho
      refine enum_call1 (begins_tuple a its.toArray) p' fun h' he hit hk => wpAny_pyIter_enum he ?_
      have I2 : Inv X pins σ H1 { s1 with heap := h' } := I1.kept (t' := s1.toks) hk
      refine ⟨s1.heap.objs.size + 1, [s1.heap.objs.size + 1, s1.heap.objs.size], _, _, H1, rfl, I2, turn_en a (s1.heap.objs.size + 1) s1.heap.objs.size, ⟨⟨.none, he⟩, ⟨_, hit, rfl, rfl⟩, Nat.succ_ne_self _, Nat.ne_of_lt la, Nat.ne_of_gt (Nat.lt_succ_of_lt la)⟩, fun b hb => ?_, q⟩
      have le := fresh b (by simpa using hb)
      exact I1.fpOk le (I1.hok.fresh le)⟩
section
variable {D : Wd} {W : WX} {X : Cx} {e : Expr} {m : EM PV} {p pos tpos : Pos} {elts : List Expr} {kk : Nat}
def enumP : Nat → List PV → List PV
  | _, [] => []
  | i, x :: xs => .tup [.int (i : Nat), x] :: enumP (i + 1) xs
theorem enumP_len : ∀ (i : Nat) (xs : List PV), (enumP i xs).length = xs.length
  | _, [] => rfl
  | i, x :: xs => by rw [enumP, List.length_cons, List.length_cons, enumP_len]
theorem enumP_get : ∀ (j : Nat) (xs : List PV) (i : Nat) {x : PV}, xs[i]? = some x → (enumP j xs)[i]? = some (.tup [.int ((j + i : Nat) : Int), x])
  | _, [], i, _, h => by simp at h
  | j, y :: ys, 0, x, h => by simp at h; subst h; simp [enumP]
  | j, y :: ys, i + 1, x, h => by
    rw [enumP, List.getElem?_cons_succ, enumP_get (j + 1) ys i (by simpa using h)]
    rw [show j + 1 + i = j + (i + 1) by omega]
theorem jen {G0 G H : Hp} {xs : List PV} {w : V} {i : Nat} {T : Addr} {x : PV} (le : LeG G H) (hx : xs[i]? = some x) (r : Rep D G x w) (hT : H T = none) : ∃ G' y, (enumP 0 xs)[i]? = some y ∧ Grow G H G' (upd H T (.tup [.int (i : Nat), w])) ∧ Rep D G' y (.ref T) := by
  have gr := Grow.new (o := .tup [.int (i : Nat), w]) le hT
  refine ⟨_, _, enumP_get 0 xs i hx, gr, T, _, rfl, .inl (.inl upd_same), ?_⟩
  rw [Nat.zero_add]
  exact ⟨_, _, rfl, rfl, _, _, rfl, r.mono gr.leg, rfl⟩
theorem j_enL {G0 : Hp} {ad : Addr} {xs : List PV} {ws : List V} (s : SqL D.K G0 ad ws) (r : Reps D G0 xs ws) : JOk D G0 (Ite D.K ad) (enumP 0 xs) := by
  intro G H g le i
  have s' : SqL D.K H ad ws := sqL_mono le (sqL_mono (LeG.of_same g) s)
  rw [enumP_len]
  refine ⟨fun hi => ?_, fun hi => ⟨ws, s', by rw [r.length]; exact hi⟩⟩
  have hx := List.getElem?_eq_getElem hi
  obtain ⟨w, e1, e2⟩ := r.get hx
  refine ⟨⟨ws, w, s', e1⟩, fun v H' y => ?_⟩
  obtain ⟨T, w2, rfl, hT, rfl, hw⟩ := y
  have := hw ws s'
  rw [e1] at this; cases this
  exact jen (G0 := G0) le hx (e2.mono (LeG.of_same g)) hT
theorem j_enT {G0 : Hp} {ad : Addr} {xs : List PV} {ws : List V} (s : SqT D.K G0 ad ws) (r : Reps D G0 xs ws) : JOk D G0 (Iten D.K ad) (enumP 0 xs) := by
  intro G H g le i
  have s' : SqT D.K H ad ws := sqT_mono le (sqT_mono (LeG.of_same g) s)
  rw [enumP_len]
  refine ⟨fun hi => ?_, fun hi => ⟨ws, s', by rw [r.length]; exact hi⟩⟩
  have hx := List.getElem?_eq_getElem hi
  obtain ⟨w, e1, e2⟩ := r.get hx
  refine ⟨⟨ws, w, s', e1⟩, fun v H' y => ?_⟩
  obtain ⟨T, w2, rfl, hT, rfl, hw⟩ := y
  have := hw ws s'
  rw [e1] at this; cases this
  exact jen (G0 := G0) le hx (e2.mono (LeG.of_same g)) hT
def kEn : PV → Ev → Out (List PV)
  | .lst xs, ρ => .ok (enumP 0 xs) ρ
  | .tup xs, ρ => .ok (enumP 0 xs) ρ
  | _, _ => .stuck
@[simp] theorem kEn_lst (xs : List PV) (ρ : Ev) : kEn (.lst xs) ρ = .ok (enumP 0 xs) ρ := (rfl)
@[simp] theorem kEn_tup (xs : List PV) (ρ : Ev) : kEn (.tup xs) ρ = .ok (enumP 0 xs) ρ := (rfl)
def itEn (m : EM PV) : EM (List PV) := fun ρ => (m ρ).bind kEn
@[simp] theorem ev_itEn (m : EM PV) (ρ : Ev) : itEn m ρ = (m ρ).bind kEn := (rfl)
theorem ri_en (hK : D.K = X.K) (hm : X.mg "enumerate" = none) (h : RE D W X e m) (hg : Gl X "enumerate" := by rfl) (hs : starEach [e] X.env = [(false, eval e X.env)] := by rfl) : RI D W X (.Tuple elts kk tpos) (.Call (.Name "enumerate" p) [e] [] pos) (itEn m) :=
  (pi_en hg hm (pa_cons h pa_nil hs) hs).imp fun σ H R ⟨G, ρ, A, k⟩ => ⟨G, ρ, A, (Kg.bind k).mono fun x ρ1 G1 H1 n1 k1 v rv => by
    cases x with
    | lst xs =>
      obtain ⟨ad, ws, rfl, s, r⟩ := rv
      exact ⟨ad, ws, rfl, .inl ⟨hK ▸ sqL_mono n1.abs.le s, hK ▸ k1 G1 H1 (Nx.refl n1.abs) _ (j_enL s r)⟩⟩
    | tup xs =>
      obtain ⟨ad, ws, rfl, s, r⟩ := rv
      exact ⟨ad, ws, rfl, .inr ⟨hK ▸ sqT_mono n1.abs.le s, hK ▸ k1 G1 H1 (Nx.refl n1.abs) _ (j_enT s r)⟩⟩
    | _ => exact False.elim k1⟩
end
end TR

set_option Elab.async false
set_option linter.all false
set_option maxRecDepth 100000
/-! TRZJ: dict(d), == of dicts that are the same, == by an own __eq__ of things that are the same. -/
namespace TR
open PySem PySem.Spec L2
set_option autoImplicit false
section
variable {D : Wd} {W : WX} {X : Cx} {a b e o : Expr} {es : List Expr} {pos p p2 : Pos} {m ma mb : EM PV} {G G' H H' : Hp} {k d : Nat}
/-! ### dict(e), a copy -/
def rDcopy : List V → Hp → VK → Prop := fun xs H Q => ∃ a kvs, xs = [.ref a] ∧ Rd H a (.dK kvs) ∧ ∀ p, H p = none → Q (.ref p) (upd H p (.dK kvs))
theorem call_dcopy : CallR X (.type "dict") rDcopy := by
  intro pins s σ H xs us Q I r h
  obtain ⟨a, kvs, rfl, e, q⟩ := h
  cases r with
  | cons r rr =>
    cases rr
    cases r
    exact d_copyOf I e fun p s' hp J => ⟨.ref p, _, J, rfl, q p hp⟩
def kDm : PV → Ev → Out MO
  | .dct kvs, ρ => .ok (.dct kvs) ρ
  | _, _ => .stuck
@[simp] theorem kDm_dct (kvs : List (Key × PV)) (ρ : Ev) : kDm (.dct kvs) ρ = .ok (.dct kvs) ρ := (rfl)
def dictM (m : EM PV) : EM MO := fun ρ => (m ρ).bind kDm
@[simp] theorem ev_dictM (m : EM PV) (ρ : Ev) : dictM m ρ = (m ρ).bind kDm := (rfl)
theorem rn_dict (h : RP D W X e m) (hg : Gl X "dict") (hm : X.mg "dict" = none) (he : starEach [e] X.env = (false, eval e X.env) :: starEach [] X.env := by rfl) (hpl : (backTo p2 (starEach [] X.env)).any (·.1) = false := by rfl) :
    RN D W X (.Call (.Name "dict" p) [e] [] p2) (dictM m) :=
  (pe_callTy call_dcopy hg hm PyProof.Rows.boot_dict (pa_cons h pa_nil he) (by decide) (by decide) he hpl).imp fun σ H Q ⟨G, ρ, A, k⟩ => ⟨G, ρ, A, by
    unfold dictM at k
    cases q : m ρ with
    | stuck => rw [q] at k; exact k
    | exc ex ρ' => rw [q] at k; exact k
    | ok x ρ1 =>
      rw [q] at k
      simp only [Out.bind_ok] at k
      intro G1 H1 n v rv
      cases x with
      | dct xs =>
        obtain ⟨ad, vs, rfl, s, rs⟩ := rv
        exact ⟨ad, vs, rfl, s, fun l hl => new_own (mo := .dct xs) n hl ⟨vs, upd_same, rs⟩ k⟩
      | _ => exact False.elim k⟩
/-! ### the same dict -/
def flatP : PV → Bool
  | .non => true
  | .bl _ => true
  | .int _ => true
  | .str _ => true
  | _ => false
theorem flat_rep {x : PV} {v w : V} (h : flatP x = true) (r : Rep D G x v) (r2 : Rep D G' x w) : v = w ∧ flatB w = true := by
  cases x <;> first | (cases r; cases r2; exact ⟨rfl, rfl⟩) | cases h
theorem same_ws : ∀ {kvs : List (Key × PV)} {ws zs : List (Key × V)}, (∀ p ∈ kvs, flatP p.2 = true) → RepD D G kvs ws → RepD D G' kvs zs → ws = zs ∧ (∀ p ∈ zs, flatB p.2 = true) ∧ zs.map (·.1) = kvs.map (·.1)
  | [], _, _, _, r, r2 => by
    rw [show _ = [] from r, show _ = [] from r2]
    exact ⟨rfl, fun p h => (by cases h), rfl⟩
  | (k, x) :: kvs, _, _, h, r, r2 => by
    obtain ⟨v, t, rfl, r3, r4⟩ := r
    obtain ⟨w, t2, rfl, r5, r6⟩ := r2
    obtain ⟨rfl, fb⟩ := flat_rep (h (k, x) List.mem_cons_self) r3 r5
    obtain ⟨rfl, fs, ks⟩ := same_ws (kvs := kvs) (fun p hp => h p (List.mem_cons_of_mem _ hp)) r4 r6
    refine ⟨rfl, fun p hp => ?_, by rw [List.map_cons, List.map_cons, ks]⟩
    rcases List.mem_cons.mp hp with rfl | hp
    · exact fb
    · exact fs p hp
theorem valV_nodup : ∀ {zs : List (Key × V)}, (zs.map (·.1)).Nodup → ∀ p ∈ zs, valV zs p.1 = some p.2
  | [], _, p, h => by cases h
  | (k, v) :: zs, nd, p, h => by
    rw [List.map_cons, List.nodup_cons] at nd
    unfold valV
    rcases List.mem_cons.mp h with rfl | h
    · simp
    · have hk : ¬ k = p.1 := fun e => by
        have hh := List.mem_map_of_mem (f := (·.1)) h
        rw [← e] at hh
        exact nd.1 hh
      rw [List.find?_cons_of_neg (by simpa using hk)]
      exact valV_nodup nd.2 p h
def SameD (x y : PV) : Prop := ∃ kvs : List (Key × PV), x = .dct kvs ∧ y = .dct kvs ∧ (kvs.map (·.1)).Nodup ∧ ∀ p ∈ kvs, flatP p.2 = true
theorem sameD_rep {x y : PV} {v w : V} (h : SameD x y) (rx : RepH D G H x v) (ry : RepH D G H y w) :
    ∃ a b ks ls, v = .ref a ∧ w = .ref b ∧ Rd H a (.dK ks) ∧ Rd H b (.dK ls) ∧ ks.length = ls.length ∧ ∀ p ∈ ks, valV ls p.1 = some p.2 ∧ flatB p.2 = true := by
  obtain ⟨kvs, rfl, rfl, nd, fl⟩ := h
  obtain ⟨a, ws, rfl, h1, r1⟩ := rx
  obtain ⟨b, zs, rfl, h2, r2⟩ := ry
  obtain ⟨rfl, fb, ks⟩ := same_ws fl r1 r2
  exact ⟨a, b, _, _, rfl, rfl, h1, h2, rfl, fun p hp => ⟨valV_nodup (by rw [ks]; exact nd) p hp, fb p hp⟩⟩
open Classical in
noncomputable def sameV (x y : PV) (z : PV) : Option PV := if SameD x y then some z else none
def orS : Option PV → Option PV → Option PV
  | some z, _ => some z
  | none, o => o
@[simp] theorem orS_some (z : PV) (o : Option PV) : orS (some z) o = some z := (rfl)
@[simp] theorem orS_none (o : Option PV) : orS none o = o := (rfl)
noncomputable def pyEqX (x y : PV) : Option PV := orS (pyEq x y) (sameV x y (.bl true))
noncomputable def pyNeX (x y : PV) : Option PV := orS (pyNe x y) (sameV x y (.bl false))
@[simp] theorem ev_eqX (x y : PV) : pyEqX x y = orS (pyEq x y) (sameV x y (.bl true)) := (rfl)
@[simp] theorem ev_neX (x y : PV) : pyNeX x y = orS (pyNe x y) (sameV x y (.bl false)) := (rfl)
@[simp] theorem eq_dd (xs ys : List (Key × PV)) : pyEq (.dct xs) (.dct ys) = none := (rfl)
@[simp] theorem ne_dd (xs ys : List (Key × PV)) : pyNe (.dct xs) (.dct ys) = none := (rfl)
theorem sameV_of {kvs : List (Key × PV)} (z : PV) (nd : (kvs.map (·.1)).Nodup) (fl : ∀ p ∈ kvs, flatP p.2 = true) : sameV (.dct kvs) (.dct kvs) z = some z := by
  unfold sameV
  rw [if_pos ⟨kvs, rfl, rfl, nd, fl⟩]
theorem sameV_some {x y z z' : PV} (h : sameV x y z = some z') : z = z' ∧ SameD x y := by
  unfold sameV at h
  split at h
  · rename_i hs; cases h; exact ⟨rfl, hs⟩
  · cases h
def rEqDR : R2 := fun x y H Q => ∃ a b ks ls, x = .ref a ∧ y = .ref b ∧ Rd H a (.dK ks) ∧ Rd H b (.dK ls) ∧ ks.length = ls.length ∧ (∀ p ∈ ks, valV ls p.1 = some p.2 ∧ flatB p.2 = true) ∧ Q (.bl true) H
def rNeDR : R2 := fun x y H Q => ∃ a b ks ls, x = .ref a ∧ y = .ref b ∧ Rd H a (.dK ks) ∧ Rd H b (.dK ls) ∧ ks.length = ls.length ∧ (∀ p ∈ ks, valV ls p.1 = some p.2 ∧ flatB p.2 = true) ∧ Q (.bl false) H
theorem op_eq_dictR (hu : X.A.units < cLine) : OpR X (compareOp .Eq) rEqDR := by
  intro pins s σ H x y v u Q I rx ry h
  obtain ⟨a, b, ks, ls, rfl, rfl, ea, eb, hlen, hp, q⟩ := h
  obtain rfl : v = Value.ref a := rx
  obtain rfl : u = Value.ref b := ry
  obtain ⟨_, ya, va, ra, da⟩ := dk_rd I.hok ea
  obtain ⟨_, yb, vb, rb, db⟩ := dk_rd I.hok eb
  have hl : va.length = vb.length := by rw [← ra.length, ← rb.length]; exact hlen
  exact PySem.W.keq_eq (knd := mixKind X.prog X.w) (r := true) ya yb da db hu (fun _ => hits_all rb ra hp) (fin_bl I q (by simp [hl]))
theorem op_ne_dictR (hu : X.A.units < cLine) : OpR X (compareOp .NotEq) rNeDR := by
  intro pins s σ H x y v u Q I rx ry h
  obtain ⟨a, b, ks, ls, rfl, rfl, ea, eb, hlen, hp, q⟩ := h
  obtain rfl : v = Value.ref a := rx
  obtain rfl : u = Value.ref b := ry
  obtain ⟨_, ya, va, ra, da⟩ := dk_rd I.hok ea
  obtain ⟨_, yb, vb, rb, db⟩ := dk_rd I.hok eb
  have hl : va.length = vb.length := by rw [← ra.length, ← rb.length]; exact hlen
  exact PySem.W.keq_ne (knd := mixKind X.prog X.w) (r := true) ya yb da db hu (fun _ => hits_all rb ra hp) (fin_bl I q (by simp [hl]))
def rEqX (K : PySem.W.Frag) : R2 := fun x y H Q => rEqP K x y H Q ∨ rEqDR x y H Q
def rNeX (K : PySem.W.Frag) : R2 := fun x y H Q => rNeP K x y H Q ∨ rNeDR x y H Q
theorem op_eqX (hu : X.A.units + 64 < cLine) : OpR X (compareOp .Eq) (rEqX X.K) := (op_eqP hu).or (op_eq_dictR (by omega))
theorem op_neX (hu : X.A.units + 64 < cLine) : OpR X (compareOp .NotEq) (rNeX X.K) := (op_neP hu).or (op_ne_dictR (by omega))
theorem sn_eqX : Sn2 D (rEqX D.K) pyEqX := by
  intro G H x y z v w Q l rx ry e q
  unfold pyEqX at e
  cases h : pyEq x y with
  | some z' =>
    rw [h] at e
    cases e
    exact .inl (sn_eq G H x y _ v w Q l rx ry h q)
  | none =>
    rw [h] at e
    obtain ⟨rfl, hs⟩ := sameV_some e
    obtain ⟨a, b, ks, ls, h1, h2, h3, h4, h5, h6⟩ := sameD_rep hs rx ry
    exact .inr ⟨a, b, ks, ls, h1, h2, h3, h4, h5, h6, flat2 l (z := .bl _) rfl q⟩
theorem sn_neX : Sn2 D (rNeX D.K) pyNeX := by
  intro G H x y z v w Q l rx ry e q
  unfold pyNeX at e
  cases h : pyNe x y with
  | some z' =>
    rw [h] at e
    cases e
    exact .inl (sn_ne G H x y _ v w Q l rx ry h q)
  | none =>
    rw [h] at e
    obtain ⟨rfl, hs⟩ := sameV_some e
    obtain ⟨a, b, ks, ls, h1, h2, h3, h4, h5, h6⟩ := sameD_rep hs rx ry
    exact .inr ⟨a, b, ks, ls, h1, h2, h3, h4, h5, h6, flat2 l (z := .bl _) rfl q⟩
/-! ### the same, by an own __eq__ -/
/-- things that an own __eq__ (by class: tab) finds equal to themselves, tuples at most d deep -/
def EqO (tab : List (Nat × FM)) : Nat → PV → Prop
  | _, .non => True
  | _, .bl _ => True
  | _, .int _ => True
  | _, .str _ => True
  | _, .obj c fs => ∃ f r, tab.lookup c = some f ∧ f [.val (.obj c fs), .val (.obj c fs)] = .ok (.v (.bl true)) r
  | d + 1, .tup xs => ∀ x ∈ xs, EqO tab d x
  | _, _ => False
def Sm (D : Wd) (tab : List (Nat × FM)) (d : Nat) : Eqv := fun x y H => ∃ G t, LeG G H ∧ EqO tab d t ∧ Rep D G t x ∧ Rep D G t y
theorem mon_sm {tab : List (Nat × FM)} : Mon (Sm D tab d) := fun x y H H' e h => by
  obtain ⟨G, t, le, h, r1, r2⟩ := h
  exact ⟨G, t, fun a u q => e a u (le a u q), h, r1, r2⟩
/-- two instances that stand for one thing -/
def OneO (D : Wd) (c : Nat) (f : FM) : Addr → Addr → Hp → Prop := fun a b H => ∃ G fs r, LeG G H ∧ f [.val (.obj c fs), .val (.obj c fs)] = .ok (.v (.bl true)) r ∧ Rep D G (.obj c fs) (.ref a) ∧ Rep D G (.obj c fs) (.ref b)
theorem sp_one {c : Nat} {f : FM} {vs : List V} {H : Hp} {Q : VK} {E : XK} (h : spEq (OneO D c f) vs H Q E) : FSp D f vs H Q E := by
  obtain ⟨a, b, rfl, ⟨G, fs, r, le, e, r1, r2⟩, q⟩ := h
  refine ⟨G, [.val (.obj c fs), .val (.obj c fs)], rfl, ⟨le, rfl, fun i s h => ?_, fun i j k m k' m' x h1 h2 h3 h4 => ?_⟩, ?_⟩
  · match i, h with
    | 0, h => cases h; exact ⟨_, rfl, r1⟩
    | 1, h => cases h; exact ⟨_, rfl, r2⟩
  · match i, h1 with
    | 0, h1 => cases h1
    | 1, h1 => cases h1
  · rw [e]
    intro G' H' v n rr
    have : v = .bl true := rr
    rw [this]
    refine q H' fun x o hx => n.k x o hx fun w => ?_
    obtain ⟨i, k, m, h1, _⟩ := w
    match i, h1 with
    | 0, h1 => cases h1
    | 1, h1 => cases h1
theorem passes_no : Passes (L2.CX X.prog X.w) X (fun _ _ _ => False) := fun _ _ _ _ _ _ _ h => by
  obtain ⟨_, _, _, _, _, _, _, _, _, _, _, _, z⟩ := h
  exact z.elim
theorem rcG_one {c : Nat} {f : FM} (T : MtAt X.prog X.w X.K X.mg X.base D k "__eq__" c f) {C : Addr} (t : D.T c C) : RcG X k (DIns C (OneO D c f)) := by
  obtain ⟨g, fd, ps, h1, h2, h3, h4⟩ := T.h C t
  exact rcG_ins (h4.imp fun vs H Q E h => sp_one h) h2.at_ h2.fn h3 passes_no
theorem dins_one {c : Nat} {f : FM} {fs : List (Str × PV)} {x y : V} {r : List Slot} (u : DunAt D c) (le : LeG G H) (e : f [.val (.obj c fs), .val (.obj c fs)] = .ok (.v (.bl true)) r) (r1 : Rep D G (.obj c fs) x) (r2 : Rep D G (.obj c fs) y) : ∃ C, D.T c C ∧ DIns C (OneO D c f) x y H := by
  obtain ⟨a, C, dx, ws, rfl, h1, t1, q1⟩ := id r1
  obtain ⟨b, C', dy, zs, rfl, h2, t2, q2⟩ := id r2
  have := u.uq _ _ t1 t2
  subst this
  exact ⟨C, t1, a, b, dx, dy, ws, zs, rfl, rfl, le _ _ h1, le _ _ h2, G, fs, r, le, e, r1, r2⟩
theorem rep_H {c : Nat} {fs : List (Str × PV)} {v : V} (l : LeG G H) (r : RepH D G H (.obj c fs) v) : Rep D H (.obj c fs) v := by
  obtain ⟨a, C, dx, ws, e, h, t, q⟩ := r
  exact ⟨a, C, dx, ws, e, h, t, RepF.mono l q⟩
theorem dtup_of {K : PySem.W.Frag} {tab : List (Nat × FM)} {d : Nat} {G H : Hp} {xs : List PV} {x y : V} (hK : D.K = K) (le : LeG G H) (h : ∀ z ∈ xs, EqO tab d z) (r1 : RepH D G H (.tup xs) x) (r2 : RepH D G H (.tup xs) y) : DTup K (Sm D tab d) x y H := by
  obtain ⟨a, vs, rfl, s1, q1⟩ := RepH.tup le r1
  obtain ⟨b, ws, rfl, s2, q2⟩ := RepH.tup le r2
  refine ⟨a, b, vs, ws, rfl, rfl, hK ▸ s1, hK ▸ s2, by rw [q1.length, q2.length], fun i v w h1 h2 => ?_⟩
  have hi : i < xs.length := by
    have := (List.getElem?_eq_some_iff.mp h1).1
    rw [q1.length] at this
    exact this
  obtain ⟨v', e1, e2⟩ := q1.get (List.getElem?_eq_getElem hi)
  obtain ⟨w', e3, e4⟩ := q2.get (List.getElem?_eq_getElem hi)
  rw [h1] at e1; cases e1
  rw [h2] at e3; cases e3
  exact ⟨G, xs[i], le, h _ (List.getElem_mem hi), e2, e4⟩
theorem eqG_sm {tab : List (Nat × FM)} (hK : D.K = X.K) (T : TblAt X.prog X.w X.K X.mg X.base D k "__eq__" tab) (u : ∀ c f, tab.lookup c = some f → DunAt D c) : ∀ d : Nat, EqG X (k + d) (Sm D tab d) := by
  intro d
  induction d with
  | zero =>
    intro A pins s σ H x y v w sb I rx ry h
    obtain ⟨G, t, le, h, r1, r2⟩ := h
    cases t with
    | obj c fs =>
      obtain ⟨f, r, hf, e⟩ := h
      obtain ⟨C, t, q⟩ := dins_one (u c f hf) le e r1 r2
      exact (RcG.eqG (rcG_one (T c f hf) t) fun _ _ _ d => let ⟨a, b, _, _, _, _, hx, hy, _⟩ := d; ⟨a, b, hx, hy⟩).mono (Nat.le_add_right _ _) A pins s σ H x y v w sb I rx ry q
    | non => cases r1; cases r2; exact eqG_flat.mono (Nat.zero_le _) A pins s σ H _ _ v w sb I rx ry ⟨rfl, rfl, rfl⟩
    | bl i => cases r1; cases r2; exact eqG_flat.mono (Nat.zero_le _) A pins s σ H _ _ v w sb I rx ry ⟨rfl, rfl, by simp [eqV]⟩
    | int i => cases r1; cases r2; exact eqG_flat.mono (Nat.zero_le _) A pins s σ H _ _ v w sb I rx ry ⟨rfl, rfl, by simp [eqV]⟩
    | str i => cases r1; cases r2; exact eqG_flat.mono (Nat.zero_le _) A pins s σ H _ _ v w sb I rx ry ⟨rfl, rfl, by simp [eqV]⟩
    | _ => exact h.elim
  | succ d ih =>
    intro A pins s σ H x y v w sb I rx ry h
    obtain ⟨G, t, le, h, r1, r2⟩ := h
    cases t with
    | obj c fs =>
      obtain ⟨f, r, hf, e⟩ := h
      obtain ⟨C, t, q⟩ := dins_one (u c f hf) le e r1 r2
      exact (RcG.eqG (rcG_one (T c f hf) t) fun _ _ _ d => let ⟨a, b, _, _, _, _, hx, hy, _⟩ := d; ⟨a, b, hx, hy⟩).mono (Nat.le_add_right _ _) A pins s σ H x y v w sb I rx ry q
    | non => cases r1; cases r2; exact eqG_flat.mono (Nat.zero_le _) A pins s σ H _ _ v w sb I rx ry ⟨rfl, rfl, rfl⟩
    | bl i => cases r1; cases r2; exact eqG_flat.mono (Nat.zero_le _) A pins s σ H _ _ v w sb I rx ry ⟨rfl, rfl, by simp [eqV]⟩
    | int i => cases r1; cases r2; exact eqG_flat.mono (Nat.zero_le _) A pins s σ H _ _ v w sb I rx ry ⟨rfl, rfl, by simp [eqV]⟩
    | str i => cases r1; cases r2; exact eqG_flat.mono (Nat.zero_le _) A pins s σ H _ _ v w sb I rx ry ⟨rfl, rfl, by simp [eqV]⟩
    | tup xs => exact eqG_tup mon_sm ih A pins s σ H x y v w sb I rx ry (dtup_of hK le h (r1.toH le) (r2.toH le))
    | _ => exact h.elim
/-! ### == of things that are the same -/
def isOT : PV → Bool
  | .obj _ _ => true
  | .tup _ => true
  | _ => false
open Classical in
noncomputable def sameO (tab : List (Nat × FM)) (d : Nat) (x y : PV) : Option PV := if x = y ∧ isOT x = true ∧ EqO tab (d + 1) x then some (.bl true) else none
noncomputable def pyEqO (tab : List (Nat × FM)) (d : Nat) (x y : PV) : Option PV := orS (pyEq x y) (sameO tab d x y)
@[simp] theorem ev_eqO (tab : List (Nat × FM)) (d : Nat) (x y : PV) : pyEqO tab d x y = orS (pyEq x y) (sameO tab d x y) := (rfl)
theorem sameO_of {tab : List (Nat × FM)} {d : Nat} {x : PV} (h : isOT x = true) (e : EqO tab (d + 1) x) : sameO tab d x x = some (.bl true) := by
  unfold sameO
  rw [if_pos ⟨rfl, h, e⟩]
theorem sameO_obj {tab : List (Nat × FM)} {d c : Nat} {fs : List (Str × PV)} {f : FM} {r : List Slot} (hf : tab.lookup c = some f) (e : f [.val (.obj c fs), .val (.obj c fs)] = .ok (.v (.bl true)) r) : sameO tab d (.obj c fs) (.obj c fs) = some (.bl true) := sameO_of rfl ⟨f, r, hf, e⟩
theorem sameO_tup {tab : List (Nat × FM)} {d : Nat} {xs : List PV} (e : ∀ x ∈ xs, EqO tab d x) : sameO tab d (.tup xs) (.tup xs) = some (.bl true) := sameO_of rfl e
theorem eqO_obj {tab : List (Nat × FM)} {d c : Nat} {fs : List (Str × PV)} {f : FM} {r : List Slot} (hf : tab.lookup c = some f) (e : f [.val (.obj c fs), .val (.obj c fs)] = .ok (.v (.bl true)) r) : EqO tab d (.obj c fs) := by
  cases d <;> exact ⟨f, r, hf, e⟩
@[simp] theorem eq_oo (c e : Nat) (xs ys : List (Str × PV)) : pyEq (.obj c xs) (.obj e ys) = none := (rfl)
def AnyO (D : Wd) (tab : List (Nat × FM)) : Eqv := fun x y H => ∃ c f C, tab.lookup c = some f ∧ D.T c C ∧ DIns C (OneO D c f) x y H
theorem rcG_any {tab : List (Nat × FM)} (T : TblAt X.prog X.w X.K X.mg X.base D k "__eq__" tab) : RcG X k (AnyO D tab) := by
  intro A pins s σ H x y v w sb I rx ry h
  obtain ⟨c, f, C, hf, t, q⟩ := h
  exact rcG_one (T c f hf) t A pins s σ H x y v w sb I rx ry q
def rEqO (D : Wd) (tab : List (Nat × FM)) (d : Nat) (K : PySem.W.Frag) : R2 := fun x y H Q => rEqP K x y H Q ∨ rEqG (DTup K (Sm D tab d)) x y H Q ∨ rEqG (AnyO D tab) x y H Q
theorem op_eqO {tab : List (Nat × FM)} (hK : D.K = X.K) (hu : X.A.units + 64 < cLine) (T : TblAt X.prog X.w X.K X.mg X.base D k "__eq__" tab) (u : ∀ c f, tab.lookup c = some f → DunAt D c) (hr : Room (k + d + 1) X.A) : OpR X (compareOp .Eq) (rEqO D tab d X.K) :=
  (op_eqP hu).or ((op_eqG (rcG_tup mon_sm (eqG_sm hK T u d)) hr).or (op_eqG (rcG_any T) (hr.mono (by omega))))
theorem sn_eqO {tab : List (Nat × FM)} (u : ∀ c f, tab.lookup c = some f → DunAt D c) : Sn2 D (rEqO D tab d D.K) (pyEqO tab d) := by
  intro G H x y z v w Q l rx ry e q
  unfold pyEqO at e
  cases h : pyEq x y with
  | some z' =>
    rw [h] at e
    cases e
    exact .inl (sn_eq G H x y _ v w Q l rx ry h q)
  | none =>
    rw [h] at e
    simp only [orS_none] at e
    unfold sameO at e
    split at e
    · rename_i hs
      cases e
      obtain ⟨rfl, ho, he⟩ := hs
      have qq : ∀ H', Ext H H' → Q (.bl true) H' := fun H' ex => q G H' _ ⟨fun a o h => ex a o (l a o h), fun _ _ h => h, ex, fun _ _ h => .inl h⟩ rfl
      cases x with
      | obj c fs =>
        obtain ⟨f, r, hf, e⟩ := he
        obtain ⟨C, t, di⟩ := dins_one (u c f hf) (LeG.refl H) e (rep_H l rx) (rep_H l ry)
        exact .inr (.inr ⟨⟨c, f, C, hf, t, di⟩, qq⟩)
      | tup xs => exact .inr (.inl ⟨dtup_of rfl l he rx ry, qq⟩)
      | _ => cases ho
    · cases e
theorem lk_one {α : Type} {c e : Nat} {f g : α} (h : [(c, f)].lookup e = some g) : e = c ∧ f = g := by
  unfold List.lookup at h
  split at h
  · rename_i q; cases h; exact ⟨by simpa using q, rfl⟩
  · cases h
theorem re_eqO {tab : List (Nat × FM)} (hK : D.K = X.K) (hu : X.A.units + 64 < cLine) (T : TblAt X.prog X.w X.K X.mg X.base D k "__eq__" tab) (u : ∀ c f, tab.lookup c = some f → DunAt D c) (hr : Room (k + d + 1) X.A) (ha : RE D W X a ma) (hb : RP D W X b mb) : RE D W X (.Compare a [.Eq] [b] pos) (bin (pyEqO tab d) ma mb) :=
  re_cmp (nomark _) (op_eqO hK hu T u hr) (hK ▸ sn_eqO u) ha hb
theorem rb_eqO {tab : List (Nat × FM)} (hK : D.K = X.K) (hu : X.A.units + 64 < cLine) (T : TblAt X.prog X.w X.K X.mg X.base D k "__eq__" tab) (u : ∀ c f, tab.lookup c = some f → DunAt D c) (hr : Room (k + d + 1) X.A) (ha : RE D W X a ma) (hb : RP D W X b mb) : RB D W X (.Compare a [.Eq] [b] pos) (asB (bin (pyEqO tab d) ma mb)) :=
  rb_cmp (nomark _) (op_eqO hK hu T u hr) (hK ▸ sn_eqO u) ha hb
theorem dun_one {c : Nat} {f : FM} (u : DunAt D c) : ∀ e g, [(c, f)].lookup e = some g → DunAt D e := fun e g h => by
  obtain ⟨rfl, _⟩ := lk_one h
  exact u
end
end TR

set_option Elab.async false
set_option linter.all false
set_option maxRecDepth 100000
/-! TRZK: a walk over a dict's keys; the dict is locked while it is walked. -/
namespace TR
open PySem PySem.Spec L2
set_option autoImplicit false
section
variable {D : Wd} {W : WX} {X : Cx} {G G' H H' G1 H1 G2 H2 G3 H3 : Hp} {σ σ1 σ2 σ3 : St} {ρ ρ1 ρ2 ρ3 : Ev}
/-- what may be read in the one heap, may be read in the other -/
structure Sw (G G' : Hp) : Prop where
  l : ∀ b vs, Rd G b (.lst vs) → Rd G' b (.lst vs)
  t : ∀ b vs, Rd G b (.tup vs) → Rd G' b (.tup vs)
  d : ∀ b ws, Rd G b (.dK ws) → Rd G' b (.dK ws)
  i : ∀ b C dx ws, G b = some (.ins C dx ws) → G' b = some (.ins C dx ws)
  x : ∀ b ws, G b = some (.xd ws) → G' b = some (.xd ws)
theorem Sw.sqL {K : PySem.W.Frag} (s : Sw G G') {a : Addr} {vs : List V} (h : SqL K G a vs) : SqL K G' a vs := by
  rcases h with h | h
  · exact .inl (s.l _ _ h)
  · exact .inr h
theorem Sw.sqT {K : PySem.W.Frag} (s : Sw G G') {a : Addr} {vs : List V} (h : SqT K G a vs) : SqT K G' a vs := by
  rcases h with h | h
  · exact .inl (s.t _ _ h)
  · exact .inr h
mutual
theorem Rep.sw (s : Sw G G') : ∀ {x : PV} {v : V}, Rep D G x v → Rep D G' x v
  | .non, _, h => h
  | .bl _, _, h => h
  | .int _, _, h => h
  | .str _, _, h => h
  | .lst xs, _, h => by
    obtain ⟨a, vs, e, q, r⟩ := h
    exact ⟨a, vs, e, s.sqL q, Reps.sw s r⟩
  | .tup xs, _, h => by
    obtain ⟨a, vs, e, q, r⟩ := h
    exact ⟨a, vs, e, s.sqT q, Reps.sw s r⟩
  | .dct xs, _, h => by
    obtain ⟨a, vs, e, q, r⟩ := h
    exact ⟨a, vs, e, s.d _ _ q, RepD.sw s r⟩
  | .obj c xs, _, h => by
    obtain ⟨a, C, dx, vs, e, q, t, r⟩ := h
    exact ⟨a, C, dx, vs, e, s.i _ _ _ _ q, t, RepF.sw s r⟩
theorem Reps.sw (s : Sw G G') : ∀ {xs : List PV} {vs : List V}, Reps D G xs vs → Reps D G' xs vs
  | [], _, h => h
  | x :: xs, _, h => by
    obtain ⟨v, r, e, h1, h2⟩ := h
    exact ⟨v, r, e, Rep.sw s h1, Reps.sw s h2⟩
theorem RepD.sw (s : Sw G G') : ∀ {xs : List (Key × PV)} {vs : List (Key × V)}, RepD D G xs vs → RepD D G' xs vs
  | [], _, h => h
  | (k, x) :: xs, _, h => by
    obtain ⟨v, r, e, h1, h2⟩ := h
    exact ⟨v, r, e, Rep.sw s h1, RepD.sw s h2⟩
theorem RepF.sw (s : Sw G G') : ∀ {xs : List (Str × PV)} {vs : List (Str × V)}, RepF D G xs vs → RepF D G' xs vs
  | [], _, h => h
  | (k, x) :: xs, _, h => by
    obtain ⟨v, r, e, h1, h2⟩ := h
    exact ⟨v, r, e, Rep.sw s h1, RepF.sw s h2⟩
end
theorem sw_upd {a : Addr} {o : Obj} {u u' : HO} {ws : List (Key × V)} (e : G a = some u) (h : (u = .dK ws ∧ u' = .frz o (.dK ws)) ∨ (u = .frz o (.dK ws) ∧ u' = .dK ws)) : Sw G (upd G a u') := by
  have key : ∀ b w, b ≠ a → Rd G b w → Rd (upd G a u') b w := fun b w ne r => by
    rcases r with r | ⟨o, r⟩
    · exact .inl (by rw [upd_ne ne]; exact r)
    · exact .inr ⟨o, by rw [upd_ne ne]; exact r⟩
  have ne : ∀ b w, Rd G b w → (∀ ws, w ≠ .dK ws) → (∀ o w', w ≠ .frz o w') → b ≠ a := fun b w r n1 n2 z => by
    subst z
    rcases h with ⟨rfl, rfl⟩ | ⟨rfl, rfl⟩
    · rcases r with r | ⟨o, r⟩
      · rw [e] at r; cases r; exact n1 _ rfl
      · rw [e] at r; cases r
    · rcases r with r | ⟨o, r⟩
      · rw [e] at r; cases r; exact n2 _ _ rfl
      · rw [e] at r; cases r; exact n1 _ rfl
  refine ⟨fun b vs r => key b _ (ne b _ r (fun _ z => nomatch z) fun _ _ z => nomatch z) r, fun b vs r => key b _ (ne b _ r (fun _ z => nomatch z) fun _ _ z => nomatch z) r, fun b ws' r => ?_, fun b C dx ws' r => ?_, fun b ws' r => ?_⟩
  · by_cases hb : b = a
    · subst hb
      rcases h with ⟨rfl, rfl⟩ | ⟨rfl, rfl⟩
      · rcases r with r | ⟨o', r⟩
        · rw [e] at r; cases r; exact .inr ⟨o, upd_same⟩
        · rw [e] at r; cases r
      · rcases r with r | ⟨o', r⟩
        · rw [e] at r; cases r
        · rw [e] at r; cases r; exact .inl upd_same
    · exact key b _ hb r
  · have hb : b ≠ a := fun z => by
      subst z
      rw [e] at r
      rcases h with ⟨rfl, rfl⟩ | ⟨rfl, rfl⟩ <;> cases r
    rw [upd_ne hb]; exact r
  · have hb : b ≠ a := fun z => by
      subst z
      rw [e] at r
      rcases h with ⟨rfl, rfl⟩ | ⟨rfl, rfl⟩ <;> cases r
    rw [upd_ne hb]; exact r
theorem MRep.sw (s : Sw G G') {a : Addr} {m : MO} (e : H' a = H a) (h : MRep D G H a m) : MRep D G' H' a m := by
  cases m with
  | lst xs => obtain ⟨vs, e1, r⟩ := h; exact ⟨vs, e.trans e1, r.sw s⟩
  | dct xs => obtain ⟨vs, e1, r⟩ := h; exact ⟨vs, e.trans e1, r.sw s⟩
  | obj c xs => obtain ⟨C, dx, vs, e1, t, r⟩ := h; exact ⟨C, dx, vs, e.trans e1, t, r.sw s⟩
theorem ERep.sw (s : Sw G G') {c : Value} {d : Option Addr} {e : Ex} (h : ERep D G c d e) : ERep D G' c d e := by
  obtain ⟨C, dx, ws, h1, h2, h3, h4, h5⟩ := h
  exact ⟨C, dx, ws, h1, h2, h3, s.x _ _ h4, h5.sw s⟩
/-- the frozen thing at a takes another look, in both heaps -/
theorem Abs.sw {a : Addr} {u u' : HO} (A : Abs D G H σ ρ) (e : G a = some u) (s : Sw G (upd G a u')) : Abs D (upd G a u') (upd H a u') σ ρ := by
  refine ⟨fun b w q => ?_, A.len, fun i t h => ?_, A.inj⟩
  · by_cases hb : b = a
    · subst hb; rw [upd_same] at q ⊢; exact q
    · rw [upd_ne hb] at q ⊢; exact A.le _ _ q
  · have q := A.sl i t h
    cases t with
    | non => trivial
    | val x => obtain ⟨v, e1, r⟩ := q; exact ⟨v, e1, r.sw s⟩
    | exn x => obtain ⟨b, c, d, e1, e2, r⟩ := q; exact ⟨b, c, d, e1, e2, r.sw s⟩
    | own b m =>
      obtain ⟨p, e1, gp, r⟩ := q
      have hb : p ≠ a := fun z => by subst z; rw [gp] at e; cases e
      exact ⟨p, e1, by rw [upd_ne hb]; exact gp, r.sw s (upd_ne hb)⟩
theorem Nx.unlock {a : Addr} {o : Obj} {ws : List (Key × V)} (e : G a = some (.dK ws)) (eh : H a = some (.dK ws)) (n : Nx D (upd G a (.frz o (.dK ws))) (upd H a (.frz o (.dK ws))) σ ρ G3 H3 σ3 ρ3) :
    Nx D G H σ ρ (upd G3 a (.dK ws)) (upd H3 a (.dK ws)) σ3 ρ3 := by
  have g3 : G3 a = some (.frz o (.dK ws)) := n.g a _ upd_same
  refine ⟨n.abs.sw g3 (sw_upd g3 (.inr ⟨rfl, rfl⟩)), fun b w q => ?_, fun b w q no => ?_, fun b q => ?_, fun b w q => ?_, fun b q => ?_, n.br, n.nb⟩
  · by_cases hb : b = a
    · subst hb; rw [upd_same, ← e]; exact q
    · rw [upd_ne hb]; exact n.g b w (by rw [upd_ne hb]; exact q)
  · by_cases hb : b = a
    · subst hb; rw [upd_same, ← eh]; exact q
    · rw [upd_ne hb]; exact n.k b w (by rw [upd_ne hb]; exact q) no
  · by_cases hb : b = a
    · subst hb; rw [upd_same] at q; cases q
    · rw [upd_ne hb] at q
      have := n.d b q
      rw [upd_ne hb] at this; exact this
  · by_cases hb : b = a
    · subst hb; rw [upd_same] at q; rw [e]; exact .inl q
    · rw [upd_ne hb] at q
      have := n.f b w q
      rw [upd_ne hb, upd_ne hb] at this; exact this
  · by_cases hb : b = a
    · subst hb
      rcases n.w b q with z | z
      · exact .inl z
      · rw [upd_same] at z; cases z
    · have := n.w b q
      rw [upd_ne hb] at this; exact this
def keyV : Key → PV
  | .inl i => .int i
  | .inr s => .str s
def keysP (kvs : List (Key × PV)) : List PV := kvs.map fun p => keyV p.1
theorem keyV_rep (G : Hp) (k : Key) : Rep D G (keyV k) (kV k) := by cases k <;> rfl
theorem repd_keys : ∀ {kvs : List (Key × PV)} {ws : List (Key × V)}, RepD D G kvs ws → ws.map (·.1) = kvs.map (·.1)
  | [], _, h => by rw [show _ = [] from h]; rfl
  | (k, x) :: kvs, _, h => by
    obtain ⟨v, r, rfl, _, h2⟩ := h
    simp [repd_keys h2]
theorem j_keys {G0 : Hp} {a : Addr} {o : Obj} {kvs : List (Key × PV)} {ws : List (Key × V)} (s : G0 a = some (.frz o (.dK ws))) (r : ws.map (·.1) = kvs.map (·.1)) : JOk D G0 (Itk a o ws) (keysP kvs) := by
  intro G H g le i
  have s' : H a = some (.frz o (.dK ws)) := le _ _ (g _ _ s)
  have hl : ws.length = (keysP kvs).length := by
    have := congrArg List.length r
    simpa [keysP] using this
  refine ⟨fun hi => ⟨⟨s', by omega⟩, fun v H' ⟨eH, k, w, e1, e2⟩ => ?_⟩, fun hi => ⟨s', by omega⟩⟩
  subst eH
  subst e2
  have e3 : (ws.map (·.1))[i]? = some k := by rw [List.getElem?_map, e1]; rfl
  rw [r, List.getElem?_map] at e3
  cases q : kvs[i]? with
  | none => rw [q] at e3; cases e3
  | some p =>
    rw [q] at e3
    cases e3
    exact ⟨G, keyV p.1, by unfold keysP; rw [List.getElem?_map, q]; rfl, Grow.refl le, keyV_rep _ _⟩
def noXS (o : SO) : SO := match o with
  | .exc _ _ => .stuck
  | o => o
@[simp] theorem noXS_nxt (ρ : Ev) : noXS (.nxt ρ) = .nxt ρ := (rfl)
@[simp] theorem noXS_ret (r : Ret) (ρ : Ev) : noXS (.ret r ρ) = .ret r ρ := (rfl)
def frK (i : Nat) (tg : Tg) (body : SM) : SM := fun ρ => match ρ[i]? with
  | some (.val (.dct kvs)) => noXS (frL tg body (keysP kvs) ρ)
  | _ => .stuck
def kFk (tg : Tg) (body : SM) (ρ : Ev) : Option Slot → SO
  | some (.val (.dct kvs)) => noXS (frL tg body (keysP kvs) ρ)
  | _ => .stuck
@[simp] theorem kFk_dct (tg : Tg) (body : SM) (ρ : Ev) (kvs : List (Key × PV)) : kFk tg body ρ (some (.val (.dct kvs))) = noXS (frL tg body (keysP kvs) ρ) := (rfl)
@[simp] theorem ev_frK (i : Nat) (tg : Tg) (body : SM) (ρ : Ev) : frK i tg body ρ = kFk tg body ρ ρ[i]? := by
  unfold frK
  cases h : ρ[i]? with
  | none => rfl
  | some s =>
    cases s with
    | val x => cases x <;> rfl
    | _ => rfl
variable {pos p : Pos} {x : Str} {body : List Stmt} {sb' : SM}
theorem fr_inv {g : TG} {tg : Tg} {vs : List Nat} (tk : TgX D g tg vs) {E : Ends} {xs : List PV} {J : It} (A : Abs D G1 H1 σ ρ) (k1 : Ks D W (frL tg sb' xs ρ) G1 H1 σ ρ E) (jok : JOk D G1 J xs) :
    ∃ Z : Nat → Nat → St → Hp → Prop, (∃ m, Z 0 m σ H1) ∧ ∀ i m σ H, Z i m σ H →
      (J.stop i H ∧ E.nx σ H) ∨ (J.go i H ∧ ∃ N : St → Hp → Prop, (∀ σ' H', N σ' H' → ∃ m', m' < m ∧ Z (i + 1) m' σ' H') ∧ ∀ x H', J.yld i H x H' → g x σ H' fun σ2 H2 => tS D W sb' { E with nx := N, ct := N, bk := E.nx } σ2 H2) := by
  refine ⟨fun i m σ H => m = xs.length - i ∧ i ≤ xs.length ∧ tG D W G1 (frL tg sb' (xs.drop i)) E σ H, ⟨_, rfl, Nat.zero_le _, G1, ρ, fun _ _ h => h, A, k1⟩, ?_⟩
  rintro i m σ H ⟨rfl, hi, G2, ρ2, g0, A2, k2⟩
  by_cases hlt : i < xs.length
  · obtain ⟨go, yl⟩ := (jok G2 H g0 A2.le i).1 hlt
    refine .inr ⟨go, tG D W G1 (frL tg sb' (xs.drop (i + 1))) E, fun σ' H' h' => ⟨xs.length - (i + 1), by omega, rfl, hlt, h'⟩, fun v H' y => ?_⟩
    obtain ⟨G3, x, ex, gr, rx⟩ := yl v H' y
    have n3 := A2.grow gr
    rw [List.drop_eq_getElem_cons hlt] at k2
    have ee := List.getElem?_eq_getElem hlt
    have hx : xs[i] = x := by rw [ex] at ee; exact (Option.some.inj ee).symm
    rw [hx] at k2
    have k3 : Ks D W (match tg x ρ2 with
      | some ρ1 => loopK (frL tg sb' (xs.drop (i + 1))) (sb' ρ1)
      | none => .stuck) G2 H σ ρ2 E := k2
    cases q : tg x ρ2 with
    | none => rw [q] at k3; exact False.elim k3
    | some ρ3 =>
      rw [q] at k3
      refine tk G3 H' σ ρ2 x v ρ3 _ n3.abs rx q fun σ' l' s' n4 => ?_
      refine ⟨G3, ρ3, n4.abs, ?_⟩
      exact Ks.loop (fun a u h => n4.g a u (n3.g a u (g0 a u h))) (Ks.from (n3.trans n4) k3)
  · refine .inl ⟨(jok G2 H g0 A2.le i).2 (by omega), ?_⟩
    rw [List.drop_eq_nil_of_le (by omega)] at k2
    exact k2 G2 H σ (Nx.refl A2)
theorem s_frK {i : Nat} {tgt : Expr} {g : TG} {tg : Tg} {vs : List Nat} (hp : PassesOwn (model X.prog X.w) X.A X.env X.xe) (hc : X.calm = true) (hi : PE X (.Name x p) (tVar i)) (hg : PG X tgt g) (tk : TgX D g tg vs) (hb : RSs D W X body sb')
    (hs : ∀ y, foldedSetIterable (.Name x p) X.env y = pure y := by intro _; rfl) : RS D W X (.For tgt (.Name x p) body [] pos) (frK i tg sb') := by
  have P := ps_for (pos := pos) hp hc (pi_keys hi) hg hb hs
  have Q := ps_lock P
  refine ⟨fun pins s σ H E I h => ?_⟩
  obtain ⟨G, ρ, A, k⟩ := h
  have hk : ∃ kvs, ρ[i]? = some (.val (.dct kvs)) := by
    unfold frK at k
    split at k
    · rename_i kvs e; exact ⟨kvs, e⟩
    · exact False.elim k
  obtain ⟨kvs, er⟩ := hk
  have k' : Ks D W (noXS (frL tg sb' (keysP kvs) ρ)) G H σ ρ E := by
    unfold frK at k
    rw [er] at k
    exact k
  obtain ⟨v, ev, r⟩ := A.val er
  obtain ⟨a, ws, rfl, rd, rs⟩ := r
  have hks := repd_keys rs
  rcases rd with rd | ⟨o, rd⟩
  · refine Q.run pins s σ H E I ⟨a, .dK ws, A.le _ _ rd, trivial, fun od => ?_⟩
    have s2 : Sw G (upd G a (.frz od (.dK ws))) := sw_upd rd (.inl ⟨rfl, rfl⟩)
    have A2 := A.sw rd s2
    refine ⟨_, ev, a, od, rfl, .inl ⟨ws, upd_same, ?_⟩⟩
    refine fr_inv (W := W) tk A2 ?_ (j_keys upd_same hks)
    have un : ∀ {G3 H3 σ3 ρ3}, Nx D (upd G a (.frz od (.dK ws))) (upd H a (.frz od (.dK ws))) σ ρ G3 H3 σ3 ρ3 → H3 a = some (.frz od (.dK ws)) ∧ Nx D G H σ ρ (upd G3 a (.dK ws)) (upd H3 a (.dK ws)) σ3 ρ3 := fun n => ⟨n.abs.le _ _ (n.g a _ upd_same), n.unlock rd (A.le _ _ rd)⟩
    cases q : frL tg sb' (keysP kvs) ρ with
    | nxt ρ' => rw [q] at k'; exact fun G3 H3 σ3 n => ⟨(un n).1, k' _ _ _ (un n).2⟩
    | brk ρ' => rw [q] at k'; exact fun G3 H3 σ3 n => ⟨(un n).1, k' _ _ _ (un n).2⟩
    | cnt ρ' => rw [q] at k'; exact fun G3 H3 σ3 n => ⟨(un n).1, k' _ _ _ (un n).2⟩
    | stuck => rw [q] at k'; exact k'
    | exc e ρ' => rw [q] at k'; exact False.elim k'
    | ret r ρ' =>
      rw [q] at k'
      intro G3 H3 σ3 v n rr
      have g3 : G3 a = some (.frz od (.dK ws)) := n.g a _ upd_same
      have s3 : Sw G3 (upd G3 a (.dK ws)) := sw_upd g3 (.inr ⟨rfl, rfl⟩)
      refine ⟨(un n).1, k' _ _ _ v (un n).2 ?_⟩
      cases r with
      | v x => exact Rep.sw s3 rr
      | o m =>
        obtain ⟨b, rfl, gb, hb, rm⟩ := rr
        have hne : b ≠ a := fun z => by subst z; rw [gb] at g3; cases g3
        refine ⟨b, rfl, by rw [upd_ne hne]; exact gb, ?_, rm.sw s3 (upd_ne hne)⟩
        rcases hb with hb | hb
        · rw [upd_ne hne] at hb; exact .inl hb
        · exact .inr hb
  · refine P.run pins s σ H E I ⟨_, ev, a, o, rfl, .inl ⟨ws, A.le _ _ rd, ?_⟩⟩
    refine fr_inv (W := W) tk A ?_ (j_keys rd hks)
    cases q : frL tg sb' (keysP kvs) ρ with
    | exc e ρ' => rw [q] at k'; exact False.elim k'
    | nxt ρ' => rw [q] at k'; exact k'
    | brk ρ' => rw [q] at k'; exact k'
    | cnt ρ' => rw [q] at k'; exact k'
    | stuck => rw [q] at k'; exact k'
    | ret r ρ' => rw [q] at k'; exact k'
end
end TR

set_option Elab.async false
set_option linter.all false
set_option maxRecDepth 100000
/-! TRZL: a comprehension over an own list, which stays own. -/
namespace TR
open PySem PySem.Spec L2
set_option autoImplicit false
open Classical in
/-- as cmpL; the own list in that slot must stand as it is at each turn -/
noncomputable def cmpLG (io : Nat) (s : Slot) (vs : List Nat) (tg : Tg) (t : EM Bool) (e : EM PV) : List PV → List PV → EM (List PV)
  | [], acc => fun ρ => if ρ[io]? = some s then .ok acc ρ else .stuck
  | x :: xs, acc => fun ρ => if ρ[io]? = some s then (match tg x (wipeE ρ vs) with
    | some ρ1 => (noX (t ρ1)).bind fun b ρ2 => match b with
      | true => (noX (e ρ2)).bind fun y ρ3 => if acc.length < sizeLine then cmpLG io s vs tg t e xs (acc ++ [y]) (restE ρ vs ρ3) else .stuck
      | false => cmpLG io s vs tg t e xs acc (restE ρ vs ρ2)
    | none => .stuck) else .stuck
noncomputable def cmpO (io : Nat) (vs : List Nat) (tg : Tg) (t : EM Bool) (e : EM PV) : EM MO := fun ρ => match ρ[io]? with
  | some (.own b (.lst xs)) => if saveOk ρ vs then (cmpLG io (.own b (.lst xs)) vs tg t e xs [] ρ).bind fun ys ρ => .ok (.lst ys) ρ else .stuck
  | _ => .stuck
section
variable {D : Wd} {W : WX} {X : Cx} {G H : Hp} {σ : St} {ρ : Ev} {elt tgt iter : Expr} {ifs : List Expr} {scope : Scope} {own : List (Str × Nat)} {pos p : Pos} {x : Str} {g : TG} {tg : Tg} {t : EM Bool} {m : EM PV}
theorem own_walk {K : PySem.W.Frag} {io : Nat} {b : Bool} {xs : List PV} {a : Addr} (A : Abs D G H σ ρ) (eo : σ[io]? = some (some (.ref a))) (er : ρ[io]? = some (.own b (.lst xs))) (i : Nat) :
    (i < xs.length → (Itl K a).go i H ∧ ∀ v H', (Itl K a).yld i H v H' → ∃ G' y, xs[i]? = some y ∧ Grow G H G' H' ∧ Rep D G' y v) ∧ (xs.length ≤ i → (Itl K a).stop i H) := by
  obtain ⟨a', eo', ga, ws, h, r⟩ := A.own er
  rw [eo] at eo'
  cases eo'
  have s' : SqL K H a ws := .inl (.inl h)
  refine ⟨fun hi => ?_, fun hi => ⟨ws, s', by rw [r.length]; exact hi⟩⟩
  obtain ⟨w, e1, e2⟩ := r.get (List.getElem?_eq_getElem hi)
  refine ⟨⟨ws, w, s', e1⟩, fun v H' ⟨eH, y⟩ => ?_⟩
  subst eH
  have := y ws s'
  rw [e1] at this; cases this
  exact ⟨G, _, List.getElem?_eq_getElem hi, Grow.refl A.le, e2⟩
open Classical in
theorem cmpO_le {vs : List Nat} {io : Nat} (tk : TgX D g tg vs) (σ : St) (H : Hp) (Q : VK) (h : tN D W (cmpO io vs tg t m) σ H Q) : tLc (iSeq D.K (tVar io)) g (tB D W0 t) (tE D W0 m) vs σ H Q := by
  obtain ⟨G, ρ, A, k⟩ := h
  have hk : ∃ b0 xs, ρ[io]? = some (.own b0 (.lst xs)) := by
    unfold cmpO at k
    split at k
    · rename_i b0 xs e; exact ⟨b0, xs, e⟩
    · exact False.elim k
  obtain ⟨b0, xs, er⟩ := hk
  have k1 : Kg D W (if saveOk ρ vs then (cmpLG io (.own b0 (.lst xs)) vs tg t m xs [] ρ).bind fun ys ρ => (.ok (.lst ys) ρ : Out MO) else .stuck) G H σ ρ fun mo ρ' G' H' => ∀ a, G' a = none → H a = none → MRep D G' H' a mo → ¬ Ow σ ρ' a → Q (.ref a) H' := by
    unfold cmpO at k
    rw [er] at k
    exact k
  obtain ⟨ao, eo, go0, ro⟩ := A.own er
  obtain ⟨ws0, ho, rs0⟩ := ro
  refine ⟨_, eo, .inl ⟨ao, ws0, rfl, .inl (.inl ho), ?_⟩⟩
  intro Da hDa
  obtain ⟨G1, eG⟩ : ∃ G1, G1 = G := ⟨_, rfl⟩
  obtain ⟨H1, eH⟩ : ∃ H1, H1 = H := ⟨_, rfl⟩
  obtain ⟨ρ1, eρ⟩ : ∃ ρ1, ρ1 = ρ := ⟨_, rfl⟩
  rw [← eH] at hDa ⊢
  rw [← eG, ← eH, ← eρ] at k1
  have n1 : Nx D G H σ ρ G1 H1 σ ρ1 := by rw [eG, eH, eρ]; exact Nx.refl A
  by_cases sv : saveOk ρ1 vs = true
  · rw [if_pos sv] at k1
    -- the whole list's outcome
    obtain ⟨z, hz⟩ : ∃ z, cmpLG io (.own b0 (.lst xs)) vs tg t m xs [] ρ1 = z := ⟨_, rfl⟩
    rw [hz] at k1
    have zs : z ≠ .stuck := by rintro rfl; exact k1
    have gD : G1 Da = none := by
      cases q : G1 Da with
      | none => rfl
      | some u =>
        have e := n1.abs.le Da u q
        rw [hDa] at e; cases e
    have oD : ¬ Ow σ ρ1 Da := fun w => by
      obtain ⟨⟨o, ho⟩, _⟩ := n1.abs.ow_some w
      rw [hDa] at ho; cases ho
    have n0 : Nx D G1 H1 σ ρ1 G1 (upd H1 Da (.lst [])) σ ρ1 := nx_new (Nx.refl n1.abs) hDa gD oD
    refine ⟨fun i me H => me = xs.length - i ∧ i ≤ xs.length ∧ ∃ G2 ρ2 acc ws, Nx D G1 H1 σ ρ1 G2 H σ ρ2 ∧ saveOk ρ2 vs = true ∧ G2 Da = none ∧ ¬ Ow σ ρ2 Da ∧ H Da = some (.lst ws) ∧ Reps D G2 acc ws ∧ cmpLG io (.own b0 (.lst xs)) vs tg t m (xs.drop i) acc ρ2 = z,
      ⟨_, rfl, Nat.zero_le _, G1, ρ1, [], [], n0, sv, gD, oD, upd_same, rfl, hz⟩, ?_⟩
    rintro i me H ⟨rfl, hi, G2, ρ2, acc, ws, n2, sv2, gD2, oD2, hD2, rs2, e2⟩
    have hs2 : ρ2[io]? = some (.own b0 (.lst xs)) := by
      refine Classical.byContradiction fun hne => ?_
      apply zs
      rw [← e2]
      cases xs.drop i with
      | nil => show (if _ then _ else _) = _; rw [if_neg hne]
      | cons x r => show (if _ then _ else _) = _; rw [if_neg hne]
    have jok := own_walk (K := D.K) n2.abs eo hs2 i
    by_cases hlt : i < xs.length
    · obtain ⟨go, yl⟩ := jok.1 hlt
      refine .inr ⟨go, fun H => i + 1 ≤ xs.length ∧ ∃ G2 ρ2 acc ws, Nx D G1 H1 σ ρ1 G2 H σ ρ2 ∧ saveOk ρ2 vs = true ∧ G2 Da = none ∧ ¬ Ow σ ρ2 Da ∧ H Da = some (.lst ws) ∧ Reps D G2 acc ws ∧ cmpLG io (.own b0 (.lst xs)) vs tg t m (xs.drop (i + 1)) acc ρ2 = z,
        fun H' h' => ⟨xs.length - (i + 1), by omega, rfl, h'⟩, fun v H' y => ?_⟩
      obtain ⟨G3, x, ex, gr, rx⟩ := yl v H' y
      have n3 := n2.abs.grow gr
      have hx : xs[i] = x := by
        have ee := List.getElem?_eq_getElem hlt
        rw [ex] at ee
        exact (Option.some.inj ee).symm
      rw [List.drop_eq_getElem_cons hlt, hx] at e2
      have e3 : (if ρ2[io]? = some (.own b0 (.lst xs)) then (match tg x (wipeE ρ2 vs) with
        | some ρ1 => (noX (t ρ1)).bind fun b ρ4 => match b with
          | true => (noX (m ρ4)).bind fun y ρ3 => if acc.length < sizeLine then cmpLG io (.own b0 (.lst xs)) vs tg t m (xs.drop (i + 1)) (acc ++ [y]) (restE ρ2 vs ρ3) else .stuck
          | false => cmpLG io (.own b0 (.lst xs)) vs tg t m (xs.drop (i + 1)) acc (restE ρ2 vs ρ4)
        | none => .stuck) else .stuck) = z := e2
      rw [if_pos hs2] at e3
      cases q : tg x (wipeE ρ2 vs) with
      | none => rw [q] at e3; exact absurd e3.symm zs
      | some ρ5 =>
        rw [q] at e3
        have Aw : Abs D G3 H' (wipe σ vs) (wipeE ρ2 vs) := abs_wipe n3.abs
        refine tk G3 H' (wipe σ vs) (wipeE ρ2 vs) x v ρ5 _ Aw rx q fun σ6 l6 s6 n6 => ?_
        have l6' : σ6.length = σ.length := by rw [l6, wipe_length]
        have s6' : ∀ j, j ∉ vs → σ6[j]? = σ[j]? := fun j hj => (s6 j hj).trans (wipe_out hj)
        refine ⟨wipe_same l6' s6', G3, ρ5, n6.abs, Kg.noX e3 zs fun b ρ7 eb e7 G7 H7 n7 => ?_⟩
        -- what stands behind the block's step
        have fin : ∀ {ρ8 : Ev} {G8 H8 : Hp}, Nx D G3 H' (wipe σ vs) (wipeE ρ2 vs) G8 H8 σ6 ρ8 → Nx D G1 H1 σ ρ1 G8 H8 σ (restE ρ2 vs ρ8) ∧ saveOk (restE ρ2 vs ρ8) vs = true ∧ G8 Da = none ∧ ¬ Ow σ (restE ρ2 vs ρ8) Da ∧ H8 Da = some (.lst ws) := fun {ρ8 G8 H8} n8 => by
          have nb := nx_blk n3.abs sv2 n8 l6' s6'
          have na := n3.trans nb
          have hl : (restE ρ2 vs ρ8).length = ρ2.length := by rw [← na.abs.len, n2.abs.len]
          refine ⟨n2.trans na, ?_, ?_, ?_, ?_⟩
          · unfold saveOk
            rw [List.all_eq_true]
            intro j hj
            cases ej : (restE ρ2 vs ρ8)[j]? with
            | none => rfl
            | some s =>
              have q2 := restE_in hj ej
              have hjl : j < ρ2.length := by rw [← hl]; exact (List.getElem?_eq_some_iff.mp ej).1
              have q3 : ρ2[j]? = some s := by
                rw [List.getD_eq_getElem?_getD] at q2
                rw [List.getElem?_eq_getElem hjl] at q2 ⊢
                rw [q2]
                rfl
              cases s with
              | own b m => exact absurd q3 (saveOk_get sv2 hj)
              | _ => rfl
          · cases qg : G8 Da with
            | none => rfl
            | some u =>
              rcases na.f Da u qg with w | w | w
              · rw [gD2] at w; cases w
              · rw [hD2] at w; cases w
              · exact absurd w.ow oD2
          · intro w
            rcases na.w Da w with w | w
            · exact oD2 w
            · rw [hD2] at w; cases w
          · exact na.k Da _ hD2 oD2
        cases b with
        | false =>
          refine Eq.mpr (if_neg Bool.false_ne_true) ?_
          obtain ⟨f1, f2, f3, f4, f5⟩ := fin (n6.trans n7)
          exact ⟨hlt, G7, _, acc, ws, f1, f2, f3, f4, f5, rs2.mono (n3.leg.trans (n6.trans n7).leg), e7⟩
        | true =>
          refine Eq.mpr (if_pos rfl) ?_
          refine ⟨G7, ρ7, n7.abs, Kg.noX e7 zs fun y8 ρ8 e8 e9 G8 H8 n8 w rw' => ?_⟩
          have n9 := (n6.trans n7).trans n8
          obtain ⟨f1, f2, f3, f4, f5⟩ := fin n9
          have rs8 : Reps D G8 acc ws := rs2.mono (n3.leg.trans n9.leg)
          by_cases hz8 : acc.length < sizeLine
          · rw [if_pos hz8] at e9
            refine ⟨ws, f5, by rw [rs8.length]; exact hz8, hlt, G8, _, acc ++ [y8], ws ++ [w], nx_new f1 hDa f3 f4, f2, f3, f4, upd_same, rs8.append (Reps.one rw'), e9⟩
          · rw [if_neg hz8] at e9
            exact absurd e9.symm zs
    · refine .inl ⟨jok.2 (by omega), ?_⟩
      rw [List.drop_eq_nil_of_le (by omega)] at e2
      have e3 : (if ρ2[io]? = some (.own b0 (.lst xs)) then (.ok acc ρ2 : Out (List PV)) else .stuck) = z := e2
      rw [if_pos hs2] at e3
      subst e3
      exact k1 G2 H n2 Da gD2 hDa ⟨ws, hD2, rs2⟩ oD2
  · rw [if_neg sv] at k1
    exact False.elim k1
theorem rn_lcO {io : Nat} (hc : X.calm = true) (hN : X.N.Nodup) (hK : D.K = X.K) (ok : BlkOk X.N X.env.scope scope own) (tk : TgX D g tg (own.map (·.2))) (hi : PE X (.Name x p) (tVar io))
    (hg : ∀ (s : Shared) (H : Hp) (C : Addr) (cl : List (Str × Addr)) (fp : List Addr), PG (X.blk s H scope (compEnvC scope cl C X.env) fp) tgt g)
    (ht : ∀ (s : Shared) (H : Hp) (C : Addr) (cl : List (Str × Addr)) (fp : List Addr), PTs (X.blk s H scope (compEnvC scope cl C X.env) fp) ifs (tB D W0 t))
    (he : ∀ (s : Shared) (H : Hp) (C : Addr) (cl : List (Str × Addr)) (fp : List Addr), RE D W0 (X.blk s H scope (compEnvC scope cl C X.env) fp) elt m) (hs : ∀ y, foldedSetIterable (.Name x p) X.env y = pure y := by intro _; rfl) :
    RN D W X (.ListComp elt [⟨tgt, .Name x p, ifs, 0⟩] scope pos) (cmpO io (own.map (·.2)) tg t m) := (pe_lc hc hN (pi_seq hi) ok hg ht he hs).imp (hK ▸ cmpO_le tk)
noncomputable def kCo (io : Nat) (vs : List Nat) (tg : Tg) (t : EM Bool) (e : EM PV) (ρ : Ev) : Option Slot → Out MO
  | some (.own b (.lst xs)) => if saveOk ρ vs then (cmpLG io (.own b (.lst xs)) vs tg t e xs [] ρ).bind kLs2 else .stuck
  | _ => .stuck
@[simp] theorem kCo_own (io : Nat) (vs : List Nat) (tg : Tg) (t : EM Bool) (e : EM PV) (ρ : Ev) (b : Bool) (xs : List PV) : kCo io vs tg t e ρ (some (.own b (.lst xs))) = if saveOk ρ vs = true then (cmpLG io (.own b (.lst xs)) vs tg t e xs [] ρ).bind kLs2 else .stuck := (rfl)
@[simp] theorem ev_cmpO (io : Nat) (vs : List Nat) (tg : Tg) (t : EM Bool) (e : EM PV) (ρ : Ev) : cmpO io vs tg t e ρ = kCo io vs tg t e ρ ρ[io]? := by
  unfold cmpO kCo
  cases h : ρ[io]? with
  | none => rfl
  | some s =>
    cases s with
    | own b m => cases m <;> rfl
    | _ => rfl
end
end TR

set_option Elab.async false
set_option linter.all false
set_option maxRecDepth 100000
/-! TRZM: a comprehension over an own list, stored; isinstance of the exception in hand. -/
namespace TR
open PySem PySem.Spec L2
set_option autoImplicit false
section
variable {D : Wd} {W : WX} {X : Cx} {G H : Hp} {σ : St} {ρ : Ev} {elt tgt iter : Expr} {ifs : List Expr} {scope : Scope} {own : List (Str × Nat)} {pos p p2 p3 : Pos} {x : Str} {g : TG} {tg : Tg} {t : EM Bool} {m : EM PV}
theorem s_setLcO {i io : Nat} {y : Str} {py spos : Pos} (hc : X.calm = true) (hN : X.N.Nodup) (hK : D.K = X.K) (hy : X.N[i]? = some y) (hyl : X.env.scope.names.lookup y = some .local)
    (hsw : swapsWith (.ListComp elt [⟨tgt, .Name x p, ifs, 0⟩] scope pos) (some (.Name y py)) spos.line X.env = pure true) (ok : BlkOk X.N X.env.scope scope own) (tk : TgX D g tg (own.map (·.2))) (hi : PE X (.Name x p) (tVar io))
    (hg : ∀ (s : Shared) (H : Hp) (C : Addr) (cl : List (Str × Addr)) (fp : List Addr), PG (X.blk s H scope (compEnvC scope cl C X.env) fp) tgt g)
    (ht : ∀ (s : Shared) (H : Hp) (C : Addr) (cl : List (Str × Addr)) (fp : List Addr), PTs (X.blk s H scope (compEnvC scope cl C X.env) fp) ifs (tB D W0 t))
    (he : ∀ (s : Shared) (H : Hp) (C : Addr) (cl : List (Str × Addr)) (fp : List Addr), RE D W0 (X.blk s H scope (compEnvC scope cl C X.env) fp) elt m) (hs : ∀ y, foldedSetIterable (.Name x p) X.env y = pure y := by intro _; rfl) :
    RS D W X (.Assign [.Name y py] (.ListComp elt [⟨tgt, .Name x p, ifs, 0⟩] scope pos) spos) (setO i (cmpO io (own.map (·.2)) tg t m)) :=
  (ps_setLc hc hN hy hyl hsw (pi_seq hi) ok hg ht he hs).imp fun E σ H ⟨G, ρ, A, k⟩ => by
    refine hK ▸ cmpO_le (W := W) (io := io) tk σ H _ ⟨G, ρ, A, ?_⟩
    unfold setO at k
    revert k
    cases cmpO io (own.map (·.2)) tg t m ρ with
    | stuck => exact fun k => k
    | exc e ρ' => exact fun k G' H' c d n er => k G' H' σ c d n er
    | ok mo ρ' =>
      intro k G' H' n ad g ha r no
      rw [Out.to_ok] at k
      unfold putO at k
      split at k
      · rename_i h
        exact k G' H' _ (nx_putO n g ha r no (mayPut_no h))
      · exact False.elim k
/-! ### isinstance(e, C), e the exception in hand -/
structure ExcD (K : PySem.W.Frag) (D : Addr) : Prop where
  hg : PySem.W.findIn K (.ref D) "__getattribute__" = some (some (.builtin "BaseException.__getattribute__"))
  hk : PySem.W.findIn K (.ref D) "__getattr__" = some none
  hs : PySem.W.subIn K (.ref D) (.type "BaseException") = some true
  hd : PySem.W.hasDictIn K D = true
  ha : PySem.W.findIn K (.ref D) "__class__" = some (some (.builtin "object.__class__"))
  hn : PySem.W.specialIn K (.builtin "object.__class__") "__get__" = some (some (.builtin "getset_descriptor.__get__"))
  ht : PySem.W.takesIn K (.builtin "object.__class__") = some true
  hm : PySem.W.mroIn K D (.type "object") = some true
def rIsX (K : PySem.W.Frag) (cls : Value) (d : Option Addr) (a : Addr) : List V → Hp → VK → Prop := fun xs H Q => ∃ (D dx : Addr) (c : V) (cv : Value) (b : Bool) (fs : List (Str × V)), cls = .ref D ∧ d = some dx ∧ ExcD K D ∧ xs = [.ref a, c] ∧ (∀ u, RelV c u → u = cv) ∧ H dx = some (.xd fs) ∧ PySem.W.kitOne K (.ref D) cv = some b ∧ Q (.bl b) H
theorem call_isX {X : Cx} {a : Addr} {cls : Value} {d : Option Addr} {oe : Obj} {pn : List (Addr × Obj)} (hz : Zc cls d oe) (hf : ∃ vs, oe.data = .fields vs) : CallR (X.suite a ((a, oe) :: pn)) (.builtin "isinstance") (rIsX X.K cls d a) := by
  intro pins s σ H xs us Q I r h
  obtain ⟨D, dx, c, cv, b, fs, rfl, rfl, C, rfl, hcv, hx, e, q⟩ := h
  cases r with
  | cons rx rr =>
    cases rr with
    | cons rt rr =>
      cases rr
      cases rx
      have ec := hcv _ rt
      subst ec
      obtain ⟨hget, _⟩ := I.pin (a, oe) (List.mem_append.mpr (.inl List.mem_cons_self))
      obtain ⟨vs, hv⟩ := hf
      have hx : ObjOk X.prog X.w H s.heap dx (.xd fs) := I.hok dx _ hx
      obtain ⟨mA, hns, hr⟩ := hx
      obtain ⟨od, ho, hl⟩ := lookIn_ns hns
      have J : PySem.W.InstAt s.heap a oe D (some od) := ⟨hget, hz.1, by unfold PySem.W.notCls; rw [hv] <;> rfl, by rw [hz.2]; exact ho⟩
      obtain ⟨cd, hcd, _⟩ := PySem.W.any_some C.hd
      exact PySem.W.kia_one (PySem.W.kitx_exc (by rw [hcd]; rfl) C.hg C.hk C.hs C.ha C.hn C.ht C.hm) I.kIn J e (fun z => nomatch z) fun tk => ⟨.bl b, H, I.kept (t' := tk) fun _ _ z => z, rfl, q⟩
structure XiAt (D : Wd) (mg : Str → Option Value) (x : Str) (tab : List Nat) : Prop where
  ex : ∃ C : Addr, mg x = some (.ref C) ∧ ∀ c C', D.E c C' → ExcD D.K C' ∧ PySem.W.kitOne D.K (.ref C') (.ref C) = some (decide (c ∈ tab))
/-- isinstance(err, x) -/
def xisM (i : Nat) (tab : List Nat) : EM PV := fun ρ => match ρ[i]? with
  | some (.exn e) => .ok (.bl (decide (e.c ∈ tab))) ρ
  | _ => .stuck
theorem re_isx {i a : Nat} {y : Str} {tab : List Nat} {oe : Obj} {cls : Value} {d : Option Addr} {pn : List (Addr × Obj)} {e : Expr} (hC : XiAt D X.mg y tab) (hK : D.K = X.K) (hz : Zc cls d oe) (hd : ∃ vs, oe.data = .fields vs) (he : PE (X.suite a ((a, oe) :: pn)) e (tVar i))
    (hg : Gl (X.suite a ((a, oe) :: pn)) "isinstance") (hm : X.mg "isinstance" = none) (hg2 : Gl (X.suite a ((a, oe) :: pn)) y := by rfl) (hd2 : (y == ("__debug__" : Str)) = false := by decide)
    (hs : starEach [e, .Name y p3] X.env = (false, eval e X.env) :: starEach [.Name y p3] X.env := by rfl) (hs2 : starEach [.Name y p3] X.env = (false, eval (.Name y p3) X.env) :: starEach [] X.env := by rfl) (hpl : (backTo p2 (starEach [.Name y p3] X.env)).any (·.1) = false := by rfl) :
    RE (D.hold (some (a, cls, d))) WF (X.suite a ((a, oe) :: pn)) (.Call (.Name "isinstance" p) [e, .Name y p3] [] p2) (xisM i tab) := by
  obtain ⟨C, h1, h2⟩ := hC.ex
  refine (pe_callB (X := X.suite a ((a, oe) :: pn)) (call_isX (X := X) hz hd) hg hm PyProof.Rows.boot_isinstance (pa_cons he (pa_cons (pe_glob hg2 h1 (show RelV (.ref C) (.ref C) from rfl) hd2) pa_nil hs2) hs) (by decide) (by decide) hs hpl).imp fun σ H Q ⟨G, ρ, A, k⟩ => ?_
  unfold xisM at k
  split at k
  · rename_i ex e0
    obtain ⟨a', c', d', ea, e2, C2, dx, ws, ec, hE, ed, hr, rf⟩ := A.sl i _ e0
    have ea' : a = a' ∧ cls = c' ∧ d = d' := by
      have := Option.some.inj ea
      exact ⟨(Prod.mk.inj this).1, (Prod.mk.inj (Prod.mk.inj this).2).1, (Prod.mk.inj (Prod.mk.inj this).2).2⟩
    obtain ⟨rfl, rfl, rfl⟩ := ea'
    obtain ⟨x1, x2⟩ := h2 ex.c C2 hE
    exact ⟨_, e2, C2, dx, .ref C, .ref C, _, ws, ec, ed, hK ▸ x1, rfl, fun u hu => hu, A.le _ _ hr, hK ▸ x2, k G H (Nx.refl A) _ rfl⟩
  · exact False.elim k
/-! evaluation -/
def xik (tab : List Nat) : Option Slot → Ev → Out PV
  | some (.exn e), ρ => .ok (.bl (decide (e.c ∈ tab))) ρ
  | _, _ => .stuck
@[simp] theorem xik_ (tab : List Nat) (e : Ex) (ρ : Ev) : xik tab (some (.exn e)) ρ = .ok (.bl (decide (e.c ∈ tab))) ρ := (rfl)
@[simp] theorem ev_xis (i : Nat) (tab : List Nat) (ρ : Ev) : xisM i tab ρ = xik tab ρ[i]? ρ := by
  unfold xisM xik
  cases h : ρ[i]? with
  | none => rfl
  | some s => cases s <;> rfl
end
end TR

set_option Elab.async false
set_option linter.all false
set_option maxRecDepth 100000
/-! TRZN: == of nested things, with own __eq__ below, both answers: the machine's part. -/
namespace TR.GJ
open PySem PySem.SeqAt GQ
open AutoSeq1 (wpAny_loadPart')
open MeetsSeq MeetsSeq2 MeetsSeq3 SeqRoads2
section
variable {prog : Program} {w : World} {A : Around} {R : Result → Shared → Prop}
def Two (l b : Addr) (N : Nat) (s : Shared) : Prop := ∃ (items items2 : Array Value) (n n2 : Nat) (dd dd2 : Option Addr) (sl sl2 : Array (Option Value)), s.heap.get? l = some { cls := .type "list", dict := dd, data := .seq items n, slots := sl } ∧ s.heap.get? b = some { cls := .type "list", dict := dd2, data := .seq items2 n2, slots := sl2 } ∧ items.size = N ∧ items2.size = N
def ListJ (prog : Program) (w : World) (A : Around) (E : Value → Shared → Prop) (l b : Addr) (N : Nat) (I : Nat → Shared → Prop) (No : Shared → Prop) : Prop :=
  ∀ i s, I i s → ∃ (items items2 : Array Value) (n n2 : Nat) (dd dd2 : Option Addr) (sl sl2 : Array (Option Value)), s.heap.get? l = some { cls := .type "list", dict := dd, data := .seq items n, slots := sl } ∧ s.heap.get? b = some { cls := .type "list", dict := dd2, data := .seq items2 n2, slots := sl2 } ∧ items.size = N ∧ items2.size = N ∧
    ∀ (h1 : i < items.size) (h2 : i < items2.size), wpAny (model prog w) A.in1 (eqBool items[i] items2[i]) (fun r s' => (r = true ∧ I (i + 1) s') ∨ (r = false ∧ No s' ∧ Two l b N s')) E s
theorem eq_loopJ (l b : Addr) (N : Nat) (I : Nat → Shared → Prop) (No : Shared → Prop) (hl : ListJ prog w A (fun e s' => R (.error e) s') l b N I No)
    (fin : ∀ s, I N s → R (.ok (.ret (.bool true))) s) (no : ∀ s, No s → R (.ok (.ret (.bool false))) s) (k : Nat) :
    ∀ i : Nat, N - i = k → i ≤ N → ∀ s, I i s →
      wpAny (model prog w) A.in1 (Builtin.«list.__eq__.loop» ⟨[.ref l, .ref b, rawInt i, rawInt 2], []⟩) (FinOf prog w A R) (fun e s' => R (.error e) s') s := by
  induction k with
  | zero =>
    intro i hk hi s h
    obtain ⟨items, items2, n, n2, dd, dd2, sl, sl2, hl1, hb1, hs1, hs2, _⟩ := hl _ _ h
    have hi' : i = N := by omega
    have hR : R (.ok (.ret (.bool true))) s := fin s (hi' ▸ h)
    obtain ⟨hp, g, d, tk, os⟩ := s
    wp_walk using wpAny_loadPart' hl1, wpAny_loadPart' hb1
    have hi1 : items[((i : Nat) : Int).toNat]? = none := by simp; omega
    have hi2 : items2[((i : Nat) : Int).toNat]? = none := by simp; omega
    rw [hi1, hi2]
    wp_walk using wpAny_loadPart' hl1, wpAny_loadPart' hb1
    show R (.ok (.ret (.bool (items.size == items2.size)))) _
    rw [hs1, hs2]
    simpa using hR
  | succ k ih =>
    intro i hk hi s h
    obtain ⟨items, items2, n, n2, dd, dd2, sl, sl2, hl1, hb1, hs1, hs2, turn⟩ := hl _ _ h
    have hlt : i < items.size := by omega
    have hlt2 : i < items2.size := by omega
    have ht := turn hlt hlt2
    obtain ⟨hp, g, d, tk, os⟩ := s
    wp_walk using wpAny_loadPart' hl1, wpAny_loadPart' hb1
    have hi1 : items[((i : Nat) : Int).toNat]? = some items[i] := by simp [hlt]
    have hi2 : items2[((i : Nat) : Int).toNat]? = some items2[i] := by simp [hlt2]
    have hc : ((i : Int) + 1) = ((i + 1 : Nat) : Int) := by omega
    rw [hi1, hi2]
    refine wpAny_bind (wpAny_mono ht (fun r s2 h2 => ?_) fun _ _ x => x)
    rcases h2 with ⟨hr, h2⟩ | ⟨hr, h2, h3⟩
    · subst hr
      have hrec := ih (i + 1) (by omega) (by omega) s2 h2
      obtain ⟨hp2, g2, d2, tk2, os2⟩ := s2
      wp_walk
      rw [hc]
      exact ⟨plainId_quiet plain_eq_loop _, codeAny_builtin entry_eq_loop (by
        rw [Around.under_plainId plain_eq_loop _]
        exact hrec)⟩
    · subst hr
      have hno := no s2 h2
      obtain ⟨is3, is4, n3, n4, dd3, dd4, sl3, sl4, hl3, hb3, z3, z4⟩ := h3
      obtain ⟨hp2, g2, d2, tk2, os2⟩ := s2
      have j1 : is3[((i : Nat) : Int).toNat]? = some (is3[i]'(by omega)) := by simp
      have j2 : is4[((i : Nat) : Int).toNat]? = some (is4[i]'(by omega)) := by simp
      wp_walk using wpAny_loadPart' hl3, wpAny_loadPart' hb3
      rw [j1, j2]
      wp_walk
      simpa using hno
theorem list_eqJ (l b : Addr) (N : Nat) (I : Nat → Shared → Prop) (No : Shared → Prop) (hl : ListJ prog w A (fun e s' => R (.error e) s') l b N I No)
    (fin : ∀ s, I N s → R (.ok (.ret (.bool true))) s) (no : ∀ s, No s → R (.ok (.ret (.bool false))) s) {s : Shared} (h : I 0 s) :
    wpAny (model prog w) A.in1 (Builtin.«list.__eq__» ⟨[.ref l, .ref b], []⟩) (FinOf prog w A R) (fun e s' => R (.error e) s') s := by
  obtain ⟨items, items2, n, n2, dd, dd2, sl, sl2, hl1, hb1, hs1, hs2, _⟩ := hl _ _ h
  have hrec := eq_loopJ (A := A) (R := R) l b N I No hl fin no _ 0 rfl (Nat.zero_le _) s h
  obtain ⟨hp, g, d, tk, os⟩ := s
  have f3 := AutoSeq1.sub_list_list
  have hne : ¬ (items.size != items2.size) = true := by simp [hs1, hs2]
  wp_walk using wpAny_loadPart' hl1, wpAny_loadPart' hb1
  exact ⟨plainId_quiet plain_eq_loop _, codeAny_builtin entry_eq_loop (by
    rw [Around.under_plainId plain_eq_loop _]
    exact hrec)⟩
theorem tuple_eqJ (l b : Addr) (items items2 : Array Value) (n n2 : Nat) (dd dd2 : Option Addr) (sl sl2 : Array (Option Value)) (I : Nat → Shared → Prop) (No : Shared → Prop)
    (turn : ∀ i (h1 : i < items.size) (h2 : i < items2.size) s, I i s → wpAny (model prog w) A.in1 (eqBool items[i] items2[i]) (fun r s' => (r = true ∧ I (i + 1) s') ∨ (r = false ∧ No s')) (fun e s' => R (.error e) s') s)
    (fin : ∀ s, I (min items.size items2.size) s → R (.ok (.ret (.bool (items.size == items2.size)))) s) (no : ∀ s, No s → R (.ok (.ret (.bool false))) s) {s : Shared} (hl1 : s.heap.get? l = some { cls := .type "tuple", dict := dd, data := .seq items n, slots := sl }) (hb1 : s.heap.get? b = some { cls := .type "tuple", dict := dd2, data := .seq items2 n2, slots := sl2 }) (h : I 0 s) :
    wpAny (model prog w) A.in1 (Builtin.«tuple.__eq__» ⟨[.ref l, .ref b], []⟩) (FinOf prog w A R) (fun e s' => R (.error e) s') s := by
  have f2 := AutoSeq1.sub_tuple_tuple
  have hZ : (items.toList.zip items2.toList).length = min items.size items2.size := by simp
  have h0 := h
  obtain ⟨hp, g, d, tk, os⟩ := s
  wp_walk using wpAny_loadPart' hl1, wpAny_loadPart' hb1, wpAny_forIn_list _ (fun rest b s' => b.1 = none ∧ ∃ i, rest = (items.toList.zip items2.toList).drop i ∧ i ≤ min items.size items2.size ∧ I i s') _
  case turn =>
    rintro ⟨y, x⟩ rest b s' ⟨hb', i, hz, hi, hI⟩
    have hlt : i < (items.toList.zip items2.toList).length := by
      rcases Nat.lt_or_ge i (items.toList.zip items2.toList).length with h' | h'
      · exact h'
      · rw [List.drop_of_length_le h'] at hz; cases hz
    have hm : i < min items.size items2.size := hZ ▸ hlt
    have h1 : i < items.size := Nat.lt_of_lt_of_le hm (Nat.min_le_left _ _)
    have h2 : i < items2.size := Nat.lt_of_lt_of_le hm (Nat.min_le_right _ _)
    rw [List.drop_eq_getElem_cons hlt] at hz
    injection hz with hyx hrest
    have hy : y = items[i] := by have := congrArg Prod.fst hyx; simpa using this
    have hx : x = items2[i] := by have := congrArg Prod.snd hyx; simpa using this
    subst hy hx
    refine wpAny_bind (wpAny_mono (turn i h1 h2 s' hI) (fun r s2 q2 => ?_) fun _ _ x => x)
    rcases q2 with ⟨hr, q2⟩ | ⟨hr, q2⟩
    · subst hr
      wp_walk
      exact ⟨rfl, i + 1, hrest, hm, q2⟩
    · subst hr
      have hno := no s2 q2
      wp_walk
      first | exact ⟨_, rfl, by simpa using hno⟩ | simpa using hno
  case fin =>
    rintro ⟨b1, b2⟩ s' ⟨hb', i, hz, hi, hI⟩
    simp only at hb'
    subst hb'
    have hge : min items.size items2.size ≤ i := by
      rcases Nat.lt_or_ge i (items.toList.zip items2.toList).length with h' | h'
      · rw [List.drop_eq_getElem_cons h'] at hz; cases hz
      · exact hZ ▸ h'
    have hi' : i = min items.size items2.size := by omega
    have hR : R (.ok (.ret (.bool (items.size == items2.size)))) s' := fin s' (hi' ▸ hI)
    wp_walk
    simpa [Builtin.Tuple.tupleCompareSizes] using hR
  case h =>
    exact ⟨rfl, 0, rfl, Nat.zero_le _, h0⟩
theorem ne_loopJ (l b : Addr) (N : Nat) (I : Nat → Shared → Prop) (No : Shared → Prop) (hl : ListJ prog w A (fun e s' => R (.error e) s') l b N I No)
    (fin : ∀ s, I N s → R (.ok (.ret (.bool false))) s) (no : ∀ s, No s → R (.ok (.ret (.bool true))) s) (k : Nat) :
    ∀ i : Nat, N - i = k → i ≤ N → ∀ s, I i s →
      wpAny (model prog w) A.in1 (Builtin.«list.__eq__.loop» ⟨[.ref l, .ref b, rawInt i, rawInt 3], []⟩) (FinOf prog w A R) (fun e s' => R (.error e) s') s := by
  induction k with
  | zero =>
    intro i hk hi s h
    obtain ⟨items, items2, n, n2, dd, dd2, sl, sl2, hl1, hb1, hs1, hs2, _⟩ := hl _ _ h
    have hi' : i = N := by omega
    have hR : R (.ok (.ret (.bool false))) s := fin s (hi' ▸ h)
    obtain ⟨hp, g, d, tk, os⟩ := s
    wp_walk using wpAny_loadPart' hl1, wpAny_loadPart' hb1
    have hi1 : items[((i : Nat) : Int).toNat]? = none := by simp; omega
    have hi2 : items2[((i : Nat) : Int).toNat]? = none := by simp; omega
    rw [hi1, hi2]
    wp_walk using wpAny_loadPart' hl1, wpAny_loadPart' hb1
    show R (.ok (.ret (.bool (items.size != items2.size)))) _
    rw [hs1, hs2]
    simpa using hR
  | succ k ih =>
    intro i hk hi s h
    obtain ⟨items, items2, n, n2, dd, dd2, sl, sl2, hl1, hb1, hs1, hs2, turn⟩ := hl _ _ h
    have hlt : i < items.size := by omega
    have hlt2 : i < items2.size := by omega
    have ht := turn hlt hlt2
    obtain ⟨hp, g, d, tk, os⟩ := s
    wp_walk using wpAny_loadPart' hl1, wpAny_loadPart' hb1
    have hi1 : items[((i : Nat) : Int).toNat]? = some items[i] := by simp [hlt]
    have hi2 : items2[((i : Nat) : Int).toNat]? = some items2[i] := by simp [hlt2]
    have hc : ((i : Int) + 1) = ((i + 1 : Nat) : Int) := by omega
    rw [hi1, hi2]
    refine wpAny_bind (wpAny_mono ht (fun r s2 h2 => ?_) fun _ _ x => x)
    rcases h2 with ⟨hr, h2⟩ | ⟨hr, h2, h3⟩
    · subst hr
      have hrec := ih (i + 1) (by omega) (by omega) s2 h2
      obtain ⟨hp2, g2, d2, tk2, os2⟩ := s2
      wp_walk
      rw [hc]
      exact ⟨plainId_quiet plain_eq_loop _, codeAny_builtin entry_eq_loop (by
        rw [Around.under_plainId plain_eq_loop _]
        exact hrec)⟩
    · subst hr
      have hno := no s2 h2
      obtain ⟨is3, is4, n3, n4, dd3, dd4, sl3, sl4, hl3, hb3, z3, z4⟩ := h3
      obtain ⟨hp2, g2, d2, tk2, os2⟩ := s2
      have j1 : is3[((i : Nat) : Int).toNat]? = some (is3[i]'(by omega)) := by simp
      have j2 : is4[((i : Nat) : Int).toNat]? = some (is4[i]'(by omega)) := by simp
      wp_walk using wpAny_loadPart' hl3, wpAny_loadPart' hb3
      rw [j1, j2]
      wp_walk
      simpa using hno
theorem list_neJ (l b : Addr) (N : Nat) (I : Nat → Shared → Prop) (No : Shared → Prop) (hl : ListJ prog w A (fun e s' => R (.error e) s') l b N I No)
    (fin : ∀ s, I N s → R (.ok (.ret (.bool false))) s) (no : ∀ s, No s → R (.ok (.ret (.bool true))) s) {s : Shared} (h : I 0 s) :
    wpAny (model prog w) A.in1 (Builtin.«list.__ne__» ⟨[.ref l, .ref b], []⟩) (FinOf prog w A R) (fun e s' => R (.error e) s') s := by
  obtain ⟨items, items2, n, n2, dd, dd2, sl, sl2, hl1, hb1, hs1, hs2, _⟩ := hl _ _ h
  have hrec := ne_loopJ (A := A) (R := R) l b N I No hl fin no _ 0 rfl (Nat.zero_le _) s h
  obtain ⟨hp, g, d, tk, os⟩ := s
  have f3 := AutoSeq1.sub_list_list
  have hne : ¬ (items.size != items2.size) = true := by simp [hs1, hs2]
  wp_walk using wpAny_loadPart' hl1, wpAny_loadPart' hb1
  exact ⟨plainId_quiet plain_eq_loop _, codeAny_builtin entry_eq_loop (by
    rw [Around.under_plainId plain_eq_loop _]
    exact hrec)⟩
theorem tuple_neJ (l b : Addr) (items items2 : Array Value) (n n2 : Nat) (dd dd2 : Option Addr) (sl sl2 : Array (Option Value)) (I : Nat → Shared → Prop) (No : Shared → Prop)
    (turn : ∀ i (h1 : i < items.size) (h2 : i < items2.size) s, I i s → wpAny (model prog w) A.in1 (eqBool items[i] items2[i]) (fun r s' => (r = true ∧ I (i + 1) s') ∨ (r = false ∧ No s')) (fun e s' => R (.error e) s') s)
    (fin : ∀ s, I (min items.size items2.size) s → R (.ok (.ret (.bool (items.size != items2.size)))) s) (no : ∀ s, No s → R (.ok (.ret (.bool true))) s) {s : Shared} (hl1 : s.heap.get? l = some { cls := .type "tuple", dict := dd, data := .seq items n, slots := sl }) (hb1 : s.heap.get? b = some { cls := .type "tuple", dict := dd2, data := .seq items2 n2, slots := sl2 }) (h : I 0 s) :
    wpAny (model prog w) A.in1 (Builtin.«tuple.__ne__» ⟨[.ref l, .ref b], []⟩) (FinOf prog w A R) (fun e s' => R (.error e) s') s := by
  have f2 := AutoSeq1.sub_tuple_tuple
  have hZ : (items.toList.zip items2.toList).length = min items.size items2.size := by simp
  have h0 := h
  obtain ⟨hp, g, d, tk, os⟩ := s
  wp_walk using wpAny_loadPart' hl1, wpAny_loadPart' hb1, wpAny_forIn_list _ (fun rest b s' => b.1 = none ∧ ∃ i, rest = (items.toList.zip items2.toList).drop i ∧ i ≤ min items.size items2.size ∧ I i s') _
  case turn =>
    rintro ⟨y, x⟩ rest b s' ⟨hb', i, hz, hi, hI⟩
    have hlt : i < (items.toList.zip items2.toList).length := by
      rcases Nat.lt_or_ge i (items.toList.zip items2.toList).length with h' | h'
      · exact h'
      · rw [List.drop_of_length_le h'] at hz; cases hz
    have hm : i < min items.size items2.size := hZ ▸ hlt
    have h1 : i < items.size := Nat.lt_of_lt_of_le hm (Nat.min_le_left _ _)
    have h2 : i < items2.size := Nat.lt_of_lt_of_le hm (Nat.min_le_right _ _)
    rw [List.drop_eq_getElem_cons hlt] at hz
    injection hz with hyx hrest
    have hy : y = items[i] := by have := congrArg Prod.fst hyx; simpa using this
    have hx : x = items2[i] := by have := congrArg Prod.snd hyx; simpa using this
    subst hy hx
    refine wpAny_bind (wpAny_mono (turn i h1 h2 s' hI) (fun r s2 q2 => ?_) fun _ _ x => x)
    rcases q2 with ⟨hr, q2⟩ | ⟨hr, q2⟩
    · subst hr
      wp_walk
      exact ⟨rfl, i + 1, hrest, hm, q2⟩
    · subst hr
      have hno := no s2 q2
      wp_walk
      first | exact ⟨_, rfl, by simpa using hno⟩ | simpa using hno
  case fin =>
    rintro ⟨b1, b2⟩ s' ⟨hb', i, hz, hi, hI⟩
    simp only at hb'
    subst hb'
    have hge : min items.size items2.size ≤ i := by
      rcases Nat.lt_or_ge i (items.toList.zip items2.toList).length with h' | h'
      · rw [List.drop_eq_getElem_cons h'] at hz; cases hz
      · exact hZ ▸ h'
    have hi' : i = min items.size items2.size := by omega
    have hR : R (.ok (.ret (.bool (items.size != items2.size)))) s' := fin s' (hi' ▸ hI)
    wp_walk
    simpa [Builtin.Tuple.tupleCompareSizes, bne] using hR
  case h =>
    exact ⟨rfl, 0, rfl, Nat.zero_le _, h0⟩
end
section
variable {prog : Program} {w : World} {A : Around} {E : Value → Shared → Prop} {s : Shared}
theorem rc_listJ {l b : Addr} {N : Nat} {Q : Value → Shared → Prop} (hu : A.units < cLine) (I : Nat → Shared → Prop) (No : Shared → Prop) (hl : ListJ prog w A E l b N I No)
    (fin : ∀ s, I N s → Q (.bool true) s) (no : ∀ s, No s → Q (.bool false) s) (h : I 0 s) : wpAny (model prog w) A (richCompare .Eq (.ref l) (.ref b)) Q E s := by
  obtain ⟨items, items2, n, n2, dd, dd2, sl, sl2, hl1, hb1, _, _, _⟩ := hl _ _ h
  refine wpAny_richCompare_same_room (op := .Eq) ⟨_, hl1, rfl⟩ ⟨_, hb1, rfl⟩ F.slot_list_eq (call_here F.slot_list_eq ⟨_, hl1, rfl⟩ F.entry_list_eq (F.args_list_eq_2 _ _) ?_) hu
  exact list_eqJ (R := wants (fun v s' => v ≠ .notImplemented ∧ Q v s') E) l b N I No hl (fun s' q => ⟨(fun x => nomatch x), fin s' q⟩) (fun s' q => ⟨(fun x => nomatch x), no s' q⟩) h
theorem rc_tupJ {l b : Addr} {items items2 : Array Value} {Q : Value → Shared → Prop} (hu : A.units < cLine) (I : Nat → Shared → Prop) (No : Shared → Prop)
    (hl : s.heap.IsTuple l items) (hb : s.heap.IsTuple b items2)
    (turn : ∀ i (h1 : i < items.size) (h2 : i < items2.size) s, I i s → wpAny (model prog w) A.in1 (eqBool items[i] items2[i]) (fun r s' => (r = true ∧ I (i + 1) s') ∨ (r = false ∧ No s')) E s)
    (fin : ∀ s, I (min items.size items2.size) s → Q (.bool (items.size == items2.size)) s) (no : ∀ s, No s → Q (.bool false) s) (h : I 0 s) : wpAny (model prog w) A (richCompare .Eq (.ref l) (.ref b)) Q E s := by
  obtain ⟨⟨cls, dd, data, sl⟩, ho, hc, n, hd⟩ := id hl
  obtain ⟨⟨cls2, dd2, data2, sl2⟩, ho2, hc2, n2, hd2⟩ := id hb
  simp only at hc hd hc2 hd2
  subst hc hd hc2 hd2
  refine wpAny_richCompare_same_room (op := .Eq) ⟨_, ho, rfl⟩ ⟨_, ho2, rfl⟩ F.slot_tuple_eq (call_here F.slot_tuple_eq ⟨_, ho, rfl⟩ F.entry_tuple_eq (F.args_tuple_eq_2 _ _) ?_) hu
  exact tuple_eqJ (R := wants (fun v s' => v ≠ .notImplemented ∧ Q v s') E) l b items items2 n n2 dd dd2 sl sl2 I No turn (fun s' q => ⟨(fun x => nomatch x), fin s' q⟩) (fun s' q => ⟨(fun x => nomatch x), no s' q⟩) ho ho2 h
theorem rcn_listJ {l b : Addr} {N : Nat} {Q : Value → Shared → Prop} (hu : A.units < cLine) (I : Nat → Shared → Prop) (No : Shared → Prop) (hl : ListJ prog w A E l b N I No)
    (fin : ∀ s, I N s → Q (.bool false) s) (no : ∀ s, No s → Q (.bool true) s) (h : I 0 s) : wpAny (model prog w) A (richCompare .NotEq (.ref l) (.ref b)) Q E s := by
  obtain ⟨items, items2, n, n2, dd, dd2, sl, sl2, hl1, hb1, _, _, _⟩ := hl _ _ h
  refine wpAny_richCompare_same_room (op := .NotEq) ⟨_, hl1, rfl⟩ ⟨_, hb1, rfl⟩ F.slot_list_ne (call_here F.slot_list_ne ⟨_, hl1, rfl⟩ F.entry_list_ne (F.args_list_ne_2 _ _) ?_) hu
  exact list_neJ (R := wants (fun v s' => v ≠ .notImplemented ∧ Q v s') E) l b N I No hl (fun s' q => ⟨(fun x => nomatch x), fin s' q⟩) (fun s' q => ⟨(fun x => nomatch x), no s' q⟩) h
theorem rcn_tupJ {l b : Addr} {items items2 : Array Value} {Q : Value → Shared → Prop} (hu : A.units < cLine) (I : Nat → Shared → Prop) (No : Shared → Prop)
    (hl : s.heap.IsTuple l items) (hb : s.heap.IsTuple b items2)
    (turn : ∀ i (h1 : i < items.size) (h2 : i < items2.size) s, I i s → wpAny (model prog w) A.in1 (eqBool items[i] items2[i]) (fun r s' => (r = true ∧ I (i + 1) s') ∨ (r = false ∧ No s')) E s)
    (fin : ∀ s, I (min items.size items2.size) s → Q (.bool (items.size != items2.size)) s) (no : ∀ s, No s → Q (.bool true) s) (h : I 0 s) : wpAny (model prog w) A (richCompare .NotEq (.ref l) (.ref b)) Q E s := by
  obtain ⟨⟨cls, dd, data, sl⟩, ho, hc, n, hd⟩ := id hl
  obtain ⟨⟨cls2, dd2, data2, sl2⟩, ho2, hc2, n2, hd2⟩ := id hb
  simp only at hc hd hc2 hd2
  subst hc hd hc2 hd2
  refine wpAny_richCompare_same_room (op := .NotEq) ⟨_, ho, rfl⟩ ⟨_, ho2, rfl⟩ F.slot_tuple_ne (call_here F.slot_tuple_ne ⟨_, ho, rfl⟩ F.entry_tuple_ne (F.args_tuple_ne_2 _ _) ?_) hu
  exact tuple_neJ (R := wants (fun v s' => v ≠ .notImplemented ∧ Q v s') E) l b items items2 n n2 dd dd2 sl sl2 I No turn (fun s' q => ⟨(fun x => nomatch x), fin s' q⟩) (fun s' q => ⟨(fun x => nomatch x), no s' q⟩) ho ho2 h
end
end TR.GJ

set_option Elab.async false
set_option linter.all false
set_option maxRecDepth 100000
/-! TRZO: == and != of nested things, with own __eq__ below, both answers. -/
namespace TR
open PySem PySem.Spec L2
set_option autoImplicit false
section
variable {D : Wd} {W : WX} {X : Cx} {G H : Hp} {k j : Nat} {pins : List (Addr × Obj)} {σ : St} {s : Shared} {tab : List (Nat × FM)}
/-- each address is one class's -/
def UqT (D : Wd) : Prop := ∀ c c' C, D.T c C → D.T c' C → c = c'
structure SubJ (X : Cx) (k j : Nat) (A : Around) : Prop where
  hd : A.handled = none
  dp : A.depth + 3 * k + 5 < recursionLimit
  un : A.units + j + 16 * k + 200 < cLine
  fr : A.frames = X.A.frames
theorem SubJ.in1 {A : Around} (q : SubJ X k (j + 1) A) : SubJ X k j A.in1 := ⟨q.hd, q.dp, by have := q.un; show A.units + 1 + j + 16 * k + 200 < _; omega, q.fr⟩
theorem SubJ.room {A : Around} (q : SubJ X k j A) : Room k A := ⟨q.hd, q.dp, by have := q.un; omega⟩
theorem SubJ.of (r : Room (k + 1) X.A) (hj : j ≤ 16) : SubJ X k j X.A := ⟨r.hd, by have := r.dp; omega, by have := r.un; omega, rfl⟩
theorem rd_uq {a : Addr} {u w : HO} (h : Rd G a u) (h2 : Rd G a w) (hu : ∀ o v, u ≠ .frz o v) (hw : ∀ o v, w ≠ .frz o v) : u = w := by
  rcases h with h | ⟨o, h⟩ <;> rcases h2 with h2 | ⟨o2, h2⟩
  · exact Option.some.inj (h.symm.trans h2)
  · exact absurd (Option.some.inj (h.symm.trans h2)) (hu _ _)
  · exact absurd (Option.some.inj (h2.symm.trans h)) (hw _ _)
  · have := Option.some.inj (h.symm.trans h2)
    injection this
/-- the class of what stands there -/
def ClsIs (D : Wd) (c0 : Value) : PV → Prop
  | .lst _ => c0 = .type "list"
  | .tup _ => c0 = .type "tuple"
  | .dct _ => c0 = .type "dict"
  | .obj c _ => ∃ C, D.T c C ∧ c0 = .ref C
  | _ => False
theorem rep_cls (I : Inv X pins σ H s) (hK : D.K = X.K) (le : LeG G H) {x : PV} {a : Addr} (r : Rep D G x (.ref a)) : ∃ o, s.heap.get? a = some o ∧ ClsIs D o.cls x := by
  cases x with
  | non => cases r
  | bl _ => cases r
  | int _ => cases r
  | str _ => cases r
  | lst xs =>
    obtain ⟨b, vs, e, q, _⟩ := r
    cases e
    obtain ⟨its, rv, ⟨o, n, ho, hc, _⟩, _⟩ := I.list (hK ▸ sqL_mono le q)
    exact ⟨o, ho, hc⟩
  | tup xs =>
    obtain ⟨b, vs, e, q, _⟩ := r
    cases e
    obtain ⟨its, rv, ⟨o, ho, hc, _⟩, _⟩ := I.tuple (hK ▸ sqT_mono le q)
    exact ⟨o, ho, hc⟩
  | dct xs =>
    obtain ⟨b, vs, e, q, _⟩ := r
    cases e
    obtain ⟨_, _, va, _, d⟩ := dk_rd I.hok (le.rd q)
    exact d.typeIs
  | obj c fs =>
    obtain ⟨b, C, dx, ws, e, q, t, _⟩ := r
    cases e
    obtain ⟨mA, J, _⟩ := ins_get I.hok (le _ _ q)
    obtain ⟨od, J, _⟩ := J.look
    exact ⟨_, J.1, C, t, J.cls⟩
mutual
theorem rep_inj (I : Inv X pins σ H s) (hK : D.K = X.K) (u : UqT D) (le : LeG G H) : ∀ (x y : PV) (v : V), Rep D G x v → Rep D G y v → x = y
  | .non, y, v, r, r2 => by
    cases r
    cases y with
    | non => rfl
    | lst _ => obtain ⟨_, _, e, _⟩ := r2; cases e
    | tup _ => obtain ⟨_, _, e, _⟩ := r2; cases e
    | dct _ => obtain ⟨_, _, e, _⟩ := r2; cases e
    | obj _ _ => obtain ⟨_, _, _, _, e, _⟩ := r2; cases e
    | _ => cases r2
  | .bl b, y, v, r, r2 => by
    cases r
    cases y with
    | bl _ => cases r2; rfl
    | lst _ => obtain ⟨_, _, e, _⟩ := r2; cases e
    | tup _ => obtain ⟨_, _, e, _⟩ := r2; cases e
    | dct _ => obtain ⟨_, _, e, _⟩ := r2; cases e
    | obj _ _ => obtain ⟨_, _, _, _, e, _⟩ := r2; cases e
    | _ => cases r2
  | .int b, y, v, r, r2 => by
    cases r
    cases y with
    | int _ => cases r2; rfl
    | lst _ => obtain ⟨_, _, e, _⟩ := r2; cases e
    | tup _ => obtain ⟨_, _, e, _⟩ := r2; cases e
    | dct _ => obtain ⟨_, _, e, _⟩ := r2; cases e
    | obj _ _ => obtain ⟨_, _, _, _, e, _⟩ := r2; cases e
    | _ => cases r2
  | .str b, y, v, r, r2 => by
    cases r
    cases y with
    | str _ => cases r2; rfl
    | lst _ => obtain ⟨_, _, e, _⟩ := r2; cases e
    | tup _ => obtain ⟨_, _, e, _⟩ := r2; cases e
    | dct _ => obtain ⟨_, _, e, _⟩ := r2; cases e
    | obj _ _ => obtain ⟨_, _, _, _, e, _⟩ := r2; cases e
    | _ => cases r2
  | .lst xs, y, v, r, r2 => by
    have r0 := r
    obtain ⟨a, vs, rfl, q, rs⟩ := r
    obtain ⟨o, ho, hc⟩ := rep_cls I hK le r0
    obtain ⟨o2, ho2, hc2⟩ := rep_cls I hK le r2
    rw [ho] at ho2
    cases ho2
    cases y with
    | lst ys =>
      obtain ⟨b, ws, e, q2, rs2⟩ := r2
      cases e
      have := I.list_inj (hK ▸ sqL_mono le q) (hK ▸ sqL_mono le q2)
      subst this
      rw [reps_inj I hK u le xs ys vs rs rs2]
    | tup _ => rw [show o.cls = _ from hc] at hc2; simp [ClsIs] at hc2
    | dct _ => rw [show o.cls = _ from hc] at hc2; simp [ClsIs] at hc2
    | obj _ _ => obtain ⟨_, _, hc2⟩ := hc2; rw [show o.cls = _ from hc] at hc2; cases hc2
    | _ => exact hc2.elim
  | .tup xs, y, v, r, r2 => by
    have r0 := r
    obtain ⟨a, vs, rfl, q, rs⟩ := r
    obtain ⟨o, ho, hc⟩ := rep_cls I hK le r0
    obtain ⟨o2, ho2, hc2⟩ := rep_cls I hK le r2
    rw [ho] at ho2
    cases ho2
    cases y with
    | tup ys =>
      obtain ⟨b, ws, e, q2, rs2⟩ := r2
      cases e
      have := I.tuple_inj (hK ▸ sqT_mono le q) (hK ▸ sqT_mono le q2)
      subst this
      rw [reps_inj I hK u le xs ys vs rs rs2]
    | lst _ => rw [show o.cls = _ from hc] at hc2; simp [ClsIs] at hc2
    | dct _ => rw [show o.cls = _ from hc] at hc2; simp [ClsIs] at hc2
    | obj _ _ => obtain ⟨_, _, hc2⟩ := hc2; rw [show o.cls = _ from hc] at hc2; cases hc2
    | _ => exact hc2.elim
  | .dct xs, y, v, r, r2 => by
    have r0 := r
    obtain ⟨a, vs, rfl, q, rs⟩ := r
    obtain ⟨o, ho, hc⟩ := rep_cls I hK le r0
    obtain ⟨o2, ho2, hc2⟩ := rep_cls I hK le r2
    rw [ho] at ho2
    cases ho2
    cases y with
    | dct ys =>
      obtain ⟨b, ws, e, q2, rs2⟩ := r2
      cases e
      have := rd_uq q q2 (fun _ _ z => nomatch z) (fun _ _ z => nomatch z)
      cases this
      rw [repd_inj I hK u le xs ys vs rs rs2]
    | tup _ => rw [show o.cls = _ from hc] at hc2; simp [ClsIs] at hc2
    | lst _ => rw [show o.cls = _ from hc] at hc2; simp [ClsIs] at hc2
    | obj _ _ => obtain ⟨_, _, hc2⟩ := hc2; rw [show o.cls = _ from hc] at hc2; cases hc2
    | _ => exact hc2.elim
  | .obj c xs, y, v, r, r2 => by
    have r0 := r
    obtain ⟨a, C, dx, vs, rfl, q, t, rs⟩ := r
    obtain ⟨o, ho, C0, t0, hc⟩ := rep_cls I hK le r0
    obtain ⟨o2, ho2, hc2⟩ := rep_cls I hK le r2
    rw [ho] at ho2
    cases ho2
    cases y with
    | obj c2 ys =>
      obtain ⟨b, C2, dx2, ws, e, q2, t2, rs2⟩ := r2
      cases e
      have e := Option.some.inj (q.symm.trans q2)
      cases e
      rw [u _ _ _ t t2, repf_inj I hK u le xs ys vs rs rs2]
    | lst _ => rw [hc] at hc2; simp [ClsIs] at hc2
    | dct _ => rw [hc] at hc2; simp [ClsIs] at hc2
    | tup _ => rw [hc] at hc2; simp [ClsIs] at hc2
    | _ => exact hc2.elim
theorem reps_inj (I : Inv X pins σ H s) (hK : D.K = X.K) (u : UqT D) (le : LeG G H) : ∀ (xs ys : List PV) (vs : List V), Reps D G xs vs → Reps D G ys vs → xs = ys
  | [], ys, vs, r, r2 => by
    rw [show vs = [] from r] at r2
    cases ys with
    | nil => rfl
    | cons y ys => obtain ⟨_, _, e, _⟩ := r2; cases e
  | x :: xs, ys, vs, r, r2 => by
    obtain ⟨v, t, rfl, h1, h2⟩ := r
    cases ys with
    | nil => cases (show v :: t = [] from r2)
    | cons y ys =>
      obtain ⟨v2, t2, e, h3, h4⟩ := r2
      cases e
      rw [rep_inj I hK u le x y v h1 h3, reps_inj I hK u le xs ys t h2 h4]
theorem repd_inj (I : Inv X pins σ H s) (hK : D.K = X.K) (u : UqT D) (le : LeG G H) : ∀ (xs ys : List (Key × PV)) (vs : List (Key × V)), RepD D G xs vs → RepD D G ys vs → xs = ys
  | [], ys, vs, r, r2 => by
    rw [show vs = [] from r] at r2
    cases ys with
    | nil => rfl
    | cons y ys => obtain ⟨_, _, e, _⟩ := r2; cases e
  | (kx, x) :: xs, ys, vs, r, r2 => by
    obtain ⟨v, t, rfl, h1, h2⟩ := r
    cases ys with
    | nil => cases (show (kx, v) :: t = [] from r2)
    | cons y ys =>
      obtain ⟨ky, y⟩ := y
      obtain ⟨v2, t2, e, h3, h4⟩ := r2
      cases e
      rw [rep_inj I hK u le x y v h1 h3, repd_inj I hK u le xs ys t h2 h4]
theorem repf_inj (I : Inv X pins σ H s) (hK : D.K = X.K) (u : UqT D) (le : LeG G H) : ∀ (xs ys : List (Str × PV)) (vs : List (Str × V)), RepF D G xs vs → RepF D G ys vs → xs = ys
  | [], ys, vs, r, r2 => by
    rw [show vs = [] from r] at r2
    cases ys with
    | nil => rfl
    | cons y ys => obtain ⟨_, _, e, _⟩ := r2; cases e
  | (kx, x) :: xs, ys, vs, r, r2 => by
    obtain ⟨v, t, rfl, h1, h2⟩ := r
    cases ys with
    | nil => cases (show (kx, v) :: t = [] from r2)
    | cons y ys =>
      obtain ⟨ky, y⟩ := y
      obtain ⟨v2, t2, e, h3, h4⟩ := r2
      cases e
      rw [rep_inj I hK u le x y v h1 h3, repf_inj I hK u le xs ys t h2 h4]
end
/-! ### item by item -/
inductive Els (R : PV → PV → Bool → Prop) : List PV → List PV → Bool → Prop
  | nil : Els R [] [] true
  | l {y : PV} {ys : List PV} : Els R [] (y :: ys) false
  | r {x : PV} {xs : List PV} : Els R (x :: xs) [] false
  | t {x y : PV} {xs ys : List PV} {b : Bool} : R x y true → Els R xs ys b → Els R (x :: xs) (y :: ys) b
  | f {x y : PV} {xs ys : List PV} : R x y false → Els R (x :: xs) (y :: ys) false
/-- how == ends -/
abbrev EPost (X : Cx) (pins : List (Addr × Obj)) (σ : St) (H : Hp) (b : Bool) : Bool → Shared → Prop := fun r s' => r = b ∧ ∃ H', Inv X pins σ H' s' ∧ Ext H H'
abbrev RPost (X : Cx) (pins : List (Addr × Obj)) (σ : St) (H : Hp) (b : Bool) : Value → Shared → Prop := fun r s' => r = .bool b ∧ ∃ H', Inv X pins σ H' s' ∧ Ext H H'
/-- == below a builtin answers as R says -/
def RunB (D : Wd) (X : Cx) (k j : Nat) (R : PV → PV → Bool → Prop) : Prop := ∀ (A : Around) (pins : List (Addr × Obj)) (s : Shared) (σ : St) (G H : Hp) (x y : PV) (b : Bool) (v w : V) (u u' : Value),
  R x y b → LeG G H → Rep D G x v → Rep D G y w → Inv X pins σ H s → RelV v u → RelV w u' → SubJ X k j A → wpAny (model X.prog X.w) A (eqBool u u') (EPost X pins σ H b) X.xe s
def RunC (D : Wd) (X : Cx) (k j : Nat) (R : PV → PV → Bool → Prop) : Prop := ∀ (A : Around) (pins : List (Addr × Obj)) (s : Shared) (σ : St) (G H : Hp) (x y : PV) (b : Bool) (v w : V) (u u' : Value),
  R x y b → LeG G H → RepH D G H x v → RepH D G H y w → Inv X pins σ H s → RelV v u → RelV w u' → SubJ X k j A → wpAny (model X.prog X.w) A (richCompare .Eq u u') (RPost X pins σ H b) X.xe s
def RunN (D : Wd) (X : Cx) (k j : Nat) (R : PV → PV → Bool → Prop) : Prop := ∀ (A : Around) (pins : List (Addr × Obj)) (s : Shared) (σ : St) (G H : Hp) (x y : PV) (b : Bool) (v w : V) (u u' : Value),
  R x y b → LeG G H → RepH D G H x v → RepH D G H y w → Inv X pins σ H s → RelV v u → RelV w u' → SubJ X k j A → wpAny (model X.prog X.w) A (richCompare .NotEq u u') (RPost X pins σ H (!b)) X.xe s
section
variable {R : PV → PV → Bool → Prop} {A : Around} {xs ys : List PV} {b : Bool} {v w : V} {u u' : Value}
theorem two_of {a c : Addr} {vs ws : List V} {s' : Shared} {H' : Hp} (I : Inv X pins σ H' s') (h : SqL X.K H' a vs) (h2 : SqL X.K H' c ws) (hl : vs.length = ws.length) : GJ.Two a c vs.length s' := by
  obtain ⟨its, rv, ⟨⟨o1, o2, o3, o4⟩, n, ho, hc, hd, hda⟩, _⟩ := I.list h
  obtain ⟨its2, rv2, ⟨⟨q1, q2, q3, q4⟩, n2, ho2, hc2, hd2, hda2⟩, _⟩ := I.list h2
  dsimp only at hc hda hc2 hda2
  subst hc hda hc2 hda2
  exact ⟨its.toArray, its2.toArray, n, n2, _, _, _, _, ho, ho2, by rw [List.size_toArray, ← rv.length], by rw [List.size_toArray, ← rv2.length, hl]⟩
/-- one turn over the items -/
theorem turnJ (h : RunB D X k j R) (sb : SubJ X k (j + 1) A) {G1 H1 : Hp} {vs ws : List V} {its its2 : List Value} {s' : Shared} (I1 : Inv X pins σ H1 s') (le : LeG G H) (e1 : Ext H H1) (ra : Reps D G xs vs) (rc : Reps D G ys ws) (r : Vals vs its) (r2 : Vals ws its2)
    {i : Nat} (el : Els R (xs.drop i) (ys.drop i) b) (h1 : i < its.toArray.size) (h2 : i < its2.toArray.size) :
    wpAny (model X.prog X.w) A.in1 (eqBool its.toArray[i] its2.toArray[i]) (fun q s2 => (q = true ∧ ∃ H2, Inv X pins σ H2 s2 ∧ Ext H H2 ∧ Els R (xs.drop (i + 1)) (ys.drop (i + 1)) b) ∨ (q = false ∧ b = false ∧ ∃ H2, Inv X pins σ H2 s2 ∧ Ext H H2)) X.xe s' := by
  have g1 : its[i]? = some its.toArray[i] := by
    have h1' : i < its.length := by simpa using h1
    rw [List.getElem?_eq_getElem h1'] <;> simp
  have g2 : its2[i]? = some its2.toArray[i] := by
    have h2' : i < its2.length := by simpa using h2
    rw [List.getElem?_eq_getElem h2'] <;> simp
  have l1 : i < xs.length := by rw [← ra.length, r.length]; simpa using h1
  have l2 : i < ys.length := by rw [← rc.length, r2.length]; simpa using h2
  obtain ⟨v, ev, rv⟩ := ra.get (List.getElem?_eq_getElem l1)
  obtain ⟨w, ew, rw'⟩ := rc.get (List.getElem?_eq_getElem l2)
  obtain ⟨u, hu, ru⟩ := r.get ev
  obtain ⟨u', hu', ru'⟩ := r2.get ew
  rw [g1] at hu
  rw [g2] at hu'
  rw [Option.some.inj hu, Option.some.inj hu']
  rw [List.drop_eq_getElem_cons l1, List.drop_eq_getElem_cons l2] at el
  have le1 : LeG G H1 := fun a o q => e1 a o (le a o q)
  cases el with
  | t hr hel =>
    refine wpAny_mono (h A.in1 pins s' σ G H1 _ _ true v w u u' hr le1 rv rw' I1 ru ru' sb.in1) (fun q s2 z => ?_) fun _ _ x => x
    obtain ⟨hq, H2, I2, e2⟩ := z
    exact .inl ⟨hq, H2, I2, e1.trans e2, hel⟩
  | f hr =>
    refine wpAny_mono (h A.in1 pins s' σ G H1 _ _ false v w u u' hr le1 rv rw' I1 ru ru' sb.in1) (fun q s2 z => ?_) fun _ _ x => x
    obtain ⟨hq, H2, I2, e2⟩ := z
    exact .inr ⟨hq, rfl, H2, I2, e1.trans e2⟩
theorem SubJ.u0 (q : SubJ X k j A) : A.units < cLine := by have := q.un; omega
theorem listJ_of (h : RunB D X k j R) (sb : SubJ X k (j + 1) A) {a c : Addr} {vs ws : List V} (le : LeG G H) (sa : SqL X.K H a vs) (sc : SqL X.K H c ws) (ra : Reps D G xs vs) (rc : Reps D G ys ws) (hl : xs.length = ys.length) :
    GJ.ListJ X.prog X.w A X.xe a c xs.length (fun i s' => ∃ H', Inv X pins σ H' s' ∧ Ext H H' ∧ Els R (xs.drop i) (ys.drop i) b) (fun s' => b = false ∧ ∃ H', Inv X pins σ H' s' ∧ Ext H H') := by
  rintro i s' ⟨H1, I1, e1, el⟩
  obtain ⟨its, rv, ⟨⟨o1, o2, o3, o4⟩, n, ho, hc, hd, hda⟩, _⟩ := I1.list (sa.ext e1)
  obtain ⟨its2, rv2, ⟨⟨q1, q2, q3, q4⟩, n2, ho2, hc2, hd2, hda2⟩, _⟩ := I1.list (sc.ext e1)
  dsimp only at hc hda hc2 hda2
  subst hc hda hc2 hda2
  refine ⟨its.toArray, its2.toArray, n, n2, _, _, _, _, ho, ho2, by rw [List.size_toArray, ← rv.length, ra.length], by rw [List.size_toArray, ← rv2.length, rc.length, hl], fun h1 h2 => ?_⟩
  refine wpAny_mono (turnJ (G1 := G) h sb I1 le e1 ra rc rv rv2 el h1 h2) (fun q s2 z => ?_) fun _ _ x => x
  rcases z with z | ⟨hq, hb, H2, I2, e2⟩
  · exact .inl z
  · exact .inr ⟨hq, ⟨hb, H2, I2, e2⟩, by have := two_of I2 (sa.ext e2) (sc.ext e2) (by rw [ra.length, rc.length, hl]); rw [ra.length] at this; exact this⟩
theorem els_end {i : Nat} (h1 : xs.length ≤ i) (h2 : ys.length ≤ i) (el : Els R (xs.drop i) (ys.drop i) b) : b = true := by
  rw [List.drop_eq_nil_of_le h1, List.drop_eq_nil_of_le h2] at el
  cases el
  rfl
theorem rc_list (h : RunB D X k j R) (sb : SubJ X k (j + 1) A) (hK : D.K = X.K) (hl : xs.length = ys.length) (el : Els R xs ys b) (le : LeG G H) (r1 : RepH D G H (.lst xs) v) (r2 : RepH D G H (.lst ys) w) (I : Inv X pins σ H s) (ru : RelV v u) (ru' : RelV w u') :
    wpAny (model X.prog X.w) A (richCompare .Eq u u') (RPost X pins σ H b) X.xe s ∧ wpAny (model X.prog X.w) A (richCompare .NotEq u u') (RPost X pins σ H (!b)) X.xe s := by
  obtain ⟨a, vs, rfl, sa, ra⟩ := r1.lst
  obtain ⟨c, ws, rfl, sc, rc⟩ := r2.lst
  cases ru
  cases ru'
  have L := listJ_of (pins := pins) (σ := σ) (b := b) h sb le (hK ▸ sa) (hK ▸ sc) ra rc hl
  refine ⟨GJ.rc_listJ sb.u0 _ _ L ?_ ?_ ⟨H, I, Ext.rfl', by simpa using el⟩, GJ.rcn_listJ sb.u0 _ _ L ?_ ?_ ⟨H, I, Ext.rfl', by simpa using el⟩⟩
  · rintro s' ⟨H', I', e, el⟩
    exact ⟨by rw [els_end (Nat.le_refl _) (by omega) el], H', I', e⟩
  · rintro s' ⟨hb, H', I', e⟩
    exact ⟨by rw [hb], H', I', e⟩
  · rintro s' ⟨H', I', e, el⟩
    exact ⟨by rw [els_end (Nat.le_refl _) (by omega) el]; rfl, H', I', e⟩
  · rintro s' ⟨hb, H', I', e⟩
    exact ⟨by rw [hb]; rfl, H', I', e⟩
theorem els_min {i : Nat} (hi : i = min xs.length ys.length) (el : Els R (xs.drop i) (ys.drop i) b) : b = (xs.length == ys.length) := by
  rcases Nat.lt_trichotomy xs.length ys.length with h | h | h
  · have hi' : i = xs.length := by omega
    subst hi'
    rw [List.drop_length, List.drop_eq_getElem_cons h] at el
    cases el
    have : ¬ xs.length = ys.length := by omega
    simp [this]
  · have hi' : i = xs.length := by omega
    have := els_end (by omega) (by omega) el
    rw [this, h]; simp
  · have hi' : i = ys.length := by omega
    subst hi'
    rw [List.drop_length, List.drop_eq_getElem_cons h] at el
    cases el
    have : ¬ xs.length = ys.length := by omega
    simp [this]
theorem rc_tup (h : RunB D X k j R) (sb : SubJ X k (j + 1) A) (hK : D.K = X.K) (el : Els R xs ys b) (le : LeG G H) (r1 : RepH D G H (.tup xs) v) (r2 : RepH D G H (.tup ys) w) (I : Inv X pins σ H s) (ru : RelV v u) (ru' : RelV w u') :
    wpAny (model X.prog X.w) A (richCompare .Eq u u') (RPost X pins σ H b) X.xe s ∧ wpAny (model X.prog X.w) A (richCompare .NotEq u u') (RPost X pins σ H (!b)) X.xe s := by
  obtain ⟨a, vs, rfl, sa, ra⟩ := r1.tup le
  obtain ⟨c, ws, rfl, sc, rc⟩ := r2.tup le
  cases ru
  cases ru'
  obtain ⟨its, rv, p1, _⟩ := I.tuple (hK ▸ sa)
  obtain ⟨its2, rv2, p2, _⟩ := I.tuple (hK ▸ sc)
  have z1 : its.toArray.size = xs.length := by rw [List.size_toArray, ← rv.length, ra.length]
  have z2 : its2.toArray.size = ys.length := by rw [List.size_toArray, ← rv2.length, rc.length]
  have turn : ∀ i (h1 : i < its.toArray.size) (h2 : i < its2.toArray.size) s', (∃ H', Inv X pins σ H' s' ∧ Ext H H' ∧ Els R (xs.drop i) (ys.drop i) b) → wpAny (model X.prog X.w) A.in1 (eqBool its.toArray[i] its2.toArray[i]) (fun q s2 => (q = true ∧ ∃ H2, Inv X pins σ H2 s2 ∧ Ext H H2 ∧ Els R (xs.drop (i + 1)) (ys.drop (i + 1)) b) ∨ (q = false ∧ b = false ∧ ∃ H2, Inv X pins σ H2 s2 ∧ Ext H H2)) X.xe s' := by
    rintro i h1 h2 s' ⟨H1, I1, e1, el⟩
    exact turnJ (G1 := G) h sb I1 le e1 ra rc rv rv2 el h1 h2
  refine ⟨GJ.rc_tupJ sb.u0 (fun i s' => ∃ H', Inv X pins σ H' s' ∧ Ext H H' ∧ Els R (xs.drop i) (ys.drop i) b) (fun s' => b = false ∧ ∃ H', Inv X pins σ H' s' ∧ Ext H H') p1 p2 turn ?_ ?_ ⟨H, I, Ext.rfl', by simpa using el⟩,
    GJ.rcn_tupJ sb.u0 (fun i s' => ∃ H', Inv X pins σ H' s' ∧ Ext H H' ∧ Els R (xs.drop i) (ys.drop i) b) (fun s' => b = false ∧ ∃ H', Inv X pins σ H' s' ∧ Ext H H') p1 p2 turn ?_ ?_ ⟨H, I, Ext.rfl', by simpa using el⟩⟩
  · rintro s' ⟨H', I', e, el⟩
    rw [z1, z2] at *
    exact ⟨by rw [els_min rfl el], H', I', e⟩
  · rintro s' ⟨hb, H', I', e⟩
    exact ⟨by rw [hb], H', I', e⟩
  · rintro s' ⟨H', I', e, el⟩
    rw [z1, z2] at *
    exact ⟨by rw [els_min rfl el]; rfl, H', I', e⟩
  · rintro s' ⟨hb, H', I', e⟩
    exact ⟨by rw [hb]; rfl, H', I', e⟩
end
/-! ### flat dicts -/
theorem flat_eq {x y : PV} {v w : V} (h : flatP x = true) (h2 : flatP y = true) (r : Rep D G x v) (r2 : Rep D G y w) : flatV v = true ∧ flatV w = true ∧ eqV v w = eqP x y := by
  cases x <;> first | cases h | skip
  all_goals (cases y <;> first | cases h2 | skip)
  all_goals (cases r; cases r2; exact ⟨rfl, rfl, by simp [eqV, eqP]⟩)
def dctEq (ks ls : List (Key × PV)) : Bool := ks.length == ls.length && ks.all fun p => match dget ls p.1 with
  | some u => eqP p.2 u
  | none => false
def FlatD (ks : List (Key × PV)) : Prop := ∀ p ∈ ks, flatP p.2 = true
theorem repd_dget {kvs : List (Key × PV)} {ws : List (Key × V)} (r : RepD D G kvs ws) (q : Key) : (dget kvs q = none ∧ valV ws q = none) ∨ ∃ x v, dget kvs q = some x ∧ valV ws q = some v ∧ Rep D G x v ∧ ∃ p ∈ kvs, p.2 = x := by
  induction kvs generalizing ws with
  | nil => rw [show ws = [] from r]; exact .inl ⟨rfl, rfl⟩
  | cons p kvs ih =>
    obtain ⟨kx, x⟩ := p
    obtain ⟨v, t, rfl, h1, h2⟩ := r
    by_cases e : kx = q
    · refine .inr ⟨x, v, by rw [dget_cons]; simp [e], by unfold valV; simp [e], h1, _, List.mem_cons_self, rfl⟩
    · have e1 : dget ((kx, x) :: kvs) q = dget kvs q := by rw [dget_cons]; simp [e]
      have e2 : valV ((kx, v) :: t) q = valV t q := by unfold valV; simp [e]
      rw [e1, e2]
      rcases ih h2 with h | ⟨x', v', a, b, c, p, hp, hx⟩
      · exact .inl h
      · exact .inr ⟨x', v', a, b, c, p, List.mem_cons_of_mem _ hp, hx⟩
theorem hits_gen {A : Around} {ls : List (Key × PV)} {zs : List (Key × V)} {vb : List (Key × Value)} (fl : FlatD ls) (rl : RepD D G ls zs) (rb : KV zs vb) : ∀ {ks : List (Key × PV)} {ws : List (Key × V)} {va : List (Key × Value)}, FlatD ks → RepD D G ks ws → KV ws va →
    PySem.W.KeqHits A s vb va (ks.all fun p => match dget ls p.1 with
      | some u => eqP p.2 u
      | none => false)
  | [], ws, va, _, r, ra => by
    rw [show ws = [] from r] at ra
    cases ra
    exact .nil
  | (kx, x) :: ks, ws, va, fk, r, ra => by
    obtain ⟨v, t, rfl, h1, h2⟩ := r
    unfold KV at ra
    cases ra with
    | @cons _ q _ qs hh tt =>
      obtain ⟨k2, y⟩ := q
      obtain ⟨he, hr⟩ := hh
      dsimp only at he hr
      subst he
      have ih := hits_gen (A := A) fl rl rb (fun p hp => fk p (List.mem_cons_of_mem _ hp)) h2 (show KV t qs from tt)
      rw [List.all_cons]
      rcases repd_dget rl kx with ⟨e1, e2⟩ | ⟨x', v', e1, e2, e3, p, hp, hx⟩
      · have z : valueAt vb kx = none := by
          have := rb.val kx
          rw [e2] at this
          cases h : valueAt vb kx with
          | none => rfl
          | some u => rw [h] at this; exact this.elim
        dsimp only
        rw [e1, Bool.false_and]
        exact .miss z
      · have rr : RelO (some v') (valueAt vb kx) := by rw [← e2]; exact rb.val kx
        obtain ⟨y', hy, ry⟩ := rr.some_of
        have f1 := fk (kx, x) List.mem_cons_self
        have f2 : flatP x' = true := by rw [← hx]; exact fl p hp
        obtain ⟨g1, g2, g3⟩ := flat_eq f1 f2 h1 e3
        dsimp only
        rw [e1]
        exact .hit hy (by have := eqAt_V (A := A) (s := s) hr ry g1 g2; rw [g3] at this; exact this) ih
theorem rc_dct {A : Around} {ks ls : List (Key × PV)} {v w : V} {u u' : Value} (fk : FlatD ks) (fl : FlatD ls) (le : LeG G H) (r1 : RepH D G H (.dct ks) v) (r2 : RepH D G H (.dct ls) w) (I : Inv X pins σ H s) (ru : RelV v u) (ru' : RelV w u') (hu : A.units < cLine) :
    wpAny (model X.prog X.w) A (richCompare .Eq u u') (RPost X pins σ H (dctEq ks ls)) X.xe s ∧ wpAny (model X.prog X.w) A (richCompare .NotEq u u') (RPost X pins σ H (!dctEq ks ls)) X.xe s := by
  obtain ⟨a, ws, rfl, h1, q1⟩ := r1
  obtain ⟨c, zs, rfl, h2, q2⟩ := r2
  cases ru
  cases ru'
  obtain ⟨_, ya, va, ra, da⟩ := dk_rd I.hok h1
  obtain ⟨_, yb, vb, rb, db⟩ := dk_rd I.hok h2
  have hl : (va.length == vb.length) = (ks.length == ls.length) := by rw [← ra.length, ← rb.length, q1.length, q2.length]
  have hh := hits_gen (A := A.in1) (s := s) fl q2 rb fk q1 ra
  refine ⟨PySem.W.keq_eq (knd := mixKind X.prog X.w) ya yb da db hu (fun _ => hh) ?_, PySem.W.keq_ne (knd := mixKind X.prog X.w) ya yb da db hu (fun _ => hh) ?_⟩
  · rw [hl]; exact ⟨rfl, H, I, Ext.rfl'⟩
  · rw [hl]; exact ⟨rfl, H, I, Ext.rfl'⟩
/-! ### own __eq__ -/
theorem sp_two {c : Nat} {f : FM} {fs gs : List (Str × PV)} {b : Bool} {r : List Slot} {v w : V} {H : Hp} {Q : VK} {E : XK} (le : LeG G H) (e : f [.val (.obj c fs), .val (.obj c gs)] = .ok (.v (.bl b)) r) (r1 : Rep D G (.obj c fs) v) (r2 : Rep D G (.obj c gs) w) (q : ∀ H', Ext H H' → Q (.bl b) H') : FSp D f [v, w] H Q E := by
  refine ⟨G, [.val (.obj c fs), .val (.obj c gs)], rfl, ⟨le, rfl, fun i s h => ?_, fun i j k m k' m' x h1 h2 h3 h4 => ?_⟩, ?_⟩
  · match i, h with
    | 0, h => cases h; exact ⟨_, rfl, r1⟩
    | 1, h => cases h; exact ⟨_, rfl, r2⟩
  · match i, h1 with
    | 0, h1 => cases h1
    | 1, h1 => cases h1
  · rw [e]
    intro G' H' v n rr
    have : v = .bl b := rr
    rw [this]
    refine q H' fun x o hx => n.k x o hx fun w => ?_
    obtain ⟨i, k, m, h1, _⟩ := w
    match i, h1 with
    | 0, h1 => cases h1
    | 1, h1 => cases h1
theorem call_two {A : Around} {c : Nat} {f : FM} {fs gs : List (Str × PV)} {b : Bool} {r : List Slot} {a a' g : Addr} {fd : FuncData} {ps : List Str} {H : Hp} {Q : Value → Shared → Prop} (F : FnOk X.prog X.w X.K X.mg X.base (L2.CX X.prog X.w) k g fd ps (FSp D f)) (hb : Binds X.K fd ps []) (sb : SubJ X k j A) (I : Inv X pins σ H s) (le : LeG G H)
    (e : f [.val (.obj c fs), .val (.obj c gs)] = .ok (.v (.bl b)) r) (r1 : Rep D G (.obj c fs) (.ref a)) (r2 : Rep D G (.obj c gs) (.ref a')) (q : ∀ s', (∃ H', Inv X pins σ H' s' ∧ Ext H H') → Q (.bool b) s') : wpAny (model X.prog X.w) A (call (.ref g) [.ref a, .ref a']) Q X.xe s := by
  have hsp : FSp D f [.ref a, .ref a'] H (fun v H' => v = .bl b ∧ Ext H H') (fun _ _ _ => False) := sp_two le e r1 r2 fun H' e => ⟨rfl, e⟩
  have e0 : Env0 X.prog X.w X.K X.mg X.base A X.stack s H := by
    have e := I.env0
    exact ⟨by rw [sb.fr]; exact e.frames, e.mod, e.bs, e.bsz, e.funs, e.frf, e.hok, e.bare⟩
  have hl := F.len _ _ _ _ hsp
  have rr : Vals [V.ref a, V.ref a'] [Value.ref a, Value.ref a'] := .cons rfl (.cons rfl .nil)
  refine wpAny_call (codeAny_mono (F.run A X.stack s H ⟨[.ref a, .ref a'], []⟩ [.ref a, .ref a'] [.ref a, .ref a'] _ _ sb.room e0 (by
    have := hb s [.ref a, .ref a'] I.kIn (by simpa using hl)
    simpa using this) rr hsp) fun r s' hq => ?_)
  cases r with
  | error e => exact passes_no pins σ H s e s' I hq
  | ok fl =>
    cases fl with
    | ret w =>
      obtain ⟨z, H', I', rz, ez, ex⟩ := I.after hq
      subst ez
      cases rz
      exact q s' ⟨H', I', ex⟩
    | next => exact False.elim hq
    | brk => exact False.elim hq
    | cont => exact False.elim hq
theorem rc_obj {A : Around} {c : Nat} {f : FM} {fs gs : List (Str × PV)} {b : Bool} {r : List Slot} {v w : V} {u u' : Value} (T : MtAt X.prog X.w X.K X.mg X.base D k "__eq__" c f) (du : DunAt D c) (sb : SubJ X k j A) (le : LeG G H) (e : f [.val (.obj c fs), .val (.obj c gs)] = .ok (.v (.bl b)) r)
    (r1 : Rep D G (.obj c fs) v) (r2 : Rep D G (.obj c gs) w) (I : Inv X pins σ H s) (ru : RelV v u) (ru' : RelV w u') : wpAny (model X.prog X.w) A (richCompare .Eq u u') (RPost X pins σ H b) X.xe s := by
  have k1 := r1
  have k2 := r2
  obtain ⟨a, C, dx, ws, rfl, h1, t1, q1⟩ := r1
  obtain ⟨a', C', dy, zs, rfl, h2, t2, q2⟩ := r2
  have := du.uq _ _ t1 t2
  subst this
  cases ru
  cases ru'
  obtain ⟨g, fd, ps, _, hm, hb, F⟩ := T.h C t1
  obtain ⟨mA, J, _⟩ := ins_get I.hok (le _ _ h1)
  obtain ⟨mB, J', _⟩ := ins_get I.hok (le _ _ h2)
  obtain ⟨od, J, _⟩ := J.look
  obtain ⟨od', J', _⟩ := J'.look
  obtain ⟨m, hF⟩ := I.fr
  exact PySem.W.cmp_K (op := .Eq) (tb := .ref C) sb.u0 hF I.ok.mod.kin J J'.type (by simp [PySem.W.notFirst]) hm.at_ hm.fn (call_two F hb sb I le e k1 k2 fun s' h => ⟨rfl, h⟩)
/-! ### how two things compare -/
def EqBase (tab : List (Nat × FM)) (x y : PV) (b : Bool) : Prop :=
  (∃ d e, x.dat = some d ∧ y.dat = some e ∧ PyData.eqv d e = b) ∨ (∃ ks ls, x = .dct ks ∧ y = .dct ls ∧ FlatD ks ∧ FlatD ls ∧ dctEq ks ls = b ∧ (ks = ls → b = true)) ∨
    ∃ c fs gs f r, x = .obj c fs ∧ y = .obj c gs ∧ tab.lookup c = some f ∧ f [.val (.obj c fs), .val (.obj c gs)] = .ok (.v (.bl b)) r ∧ (fs = gs → b = true)
def EqSeq (R : PV → PV → Bool → Prop) (x y : PV) (b : Bool) : Prop :=
  (∃ xs ys, x = .lst xs ∧ y = .lst ys ∧ ((xs.length ≠ ys.length ∧ b = false) ∨ (xs.length = ys.length ∧ Els R xs ys b))) ∨ ∃ xs ys, x = .tup xs ∧ y = .tup ys ∧ Els R xs ys b
/-- x == y gives b, n levels deep at most -/
def EqA (tab : List (Nat × FM)) : Nat → PV → PV → Bool → Prop
  | 0 => EqBase tab
  | n + 1 => fun x y b => EqBase tab x y b ∨ EqSeq (EqA tab n) x y b
theorem els_refl {R : PV → PV → Bool → Prop} (h : ∀ x b, R x x b → b = true) : ∀ {xs : List PV} {b : Bool}, Els R xs xs b → b = true
  | [], _, e => by cases e; rfl
  | x :: xs, _, e => by
    cases e with
    | t _ e => exact els_refl h e
    | f r => cases h _ _ r
theorem dat_refl {x : PV} {d e : PyData} (h : x.dat = some d) (h2 : x.dat = some e) : PyData.eqv d e = true := by
  rw [h] at h2
  cases h2
  have hs := (PV.dat_of h).2
  exact SeqAt.eqv_refl _ (SeqAt.canLay_of_shaped hs)
theorem base_refl {tab : List (Nat × FM)} {x : PV} {b : Bool} (h : EqBase tab x x b) : b = true := by
  rcases h with ⟨d, e, h1, h2, rfl⟩ | ⟨ks, ls, h1, h2, _, _, _, h3⟩ | ⟨c, fs, gs, f, r, h1, h2, _, _, h3⟩
  · exact dat_refl h1 h2
  · rw [h1] at h2; cases h2; exact h3 rfl
  · rw [h1] at h2; cases h2; exact h3 rfl
theorem eqA_refl {tab : List (Nat × FM)} : ∀ (n : Nat) (x : PV) (b : Bool), EqA tab n x x b → b = true
  | 0, x, b, h => base_refl h
  | n + 1, x, b, h => by
    rcases h with h | ⟨xs, ys, h1, h2, h3⟩ | ⟨xs, ys, h1, h2, h3⟩
    · exact base_refl h
    · rw [h1] at h2; cases h2
      rcases h3 with ⟨h3, _⟩ | ⟨_, h3⟩
      · exact absurd rfl h3
      · exact els_refl (eqA_refl n) h3
    · rw [h1] at h2; cases h2
      exact els_refl (eqA_refl n) h3
theorem dat_reads {A : Around} {x y : PV} {d e : PyData} {v w : V} {u u' : Value} (hK : D.K = X.K) (le : LeG G H) (h1 : x.dat = some d) (h2 : y.dat = some e) (r1 : RepH D G H x v) (r2 : RepH D G H y w) (I : Inv X pins σ H s) (ru : RelV v u) (ru' : RelV w u') :
    ∃ as bs, Reads s.heap u d as ∧ Reads s.heap u' e bs ∧ SeqAt.shaped d = true ∧ SeqAt.shaped e = true := by
  obtain ⟨as, q1⟩ := Dp.reads I d v u (hK ▸ dpH_of le (PV.dat_of h1).1 r1) ru
  obtain ⟨bs, q2⟩ := Dp.reads I e w u' (hK ▸ dpH_of le (PV.dat_of h2).1 r2) ru'
  exact ⟨as, bs, q1, q2, (PV.dat_of h1).2, (PV.dat_of h2).2⟩
theorem ref_of {x : PV} {v : V} (h : (∃ xs, x = .lst xs) ∨ (∃ xs, x = .tup xs) ∨ (∃ xs, x = .dct xs) ∨ ∃ c xs, x = .obj c xs) (r : Rep D G x v) : ∃ a, v = .ref a := by
  rcases h with ⟨xs, rfl⟩ | ⟨xs, rfl⟩ | ⟨xs, rfl⟩ | ⟨c, xs, rfl⟩
  · obtain ⟨a, _, e, _⟩ := r; exact ⟨a, e⟩
  · obtain ⟨a, _, e, _⟩ := r; exact ⟨a, e⟩
  · obtain ⟨a, _, e, _⟩ := r; exact ⟨a, e⟩
  · obtain ⟨a, _, _, _, e, _⟩ := r; exact ⟨a, e⟩
/-- below a builtin: the same thing, or by the rich comparison -/
theorem eqB_refs {A : Around} {x y : PV} {b : Bool} {v w : V} {u u' : Value} (hK : D.K = X.K) (uq : UqT D) (le : LeG G H) (I : Inv X pins σ H s) (r1 : Rep D G x v) (r2 : Rep D G y w) (ru : RelV v u) (ru' : RelV w u') (hb : x = y → b = true)
    (f1 : ∃ a, v = .ref a) (f2 : ∃ a, w = .ref a) (h : wpAny (model X.prog X.w) A (richCompare .Eq u u') (RPost X pins σ H b) X.xe s) : wpAny (model X.prog X.w) A (eqBool u u') (EPost X pins σ H b) X.xe s := by
  obtain ⟨a, rfl⟩ := f1
  obtain ⟨c, rfl⟩ := f2
  cases ru
  cases ru'
  by_cases e : a = c
  · subst e
    rw [hb (rep_inj I hK uq le x y _ r1 r2)]
    exact SeqAt.EqAt.same (A := A) (s := s) (.ref a) X.prog X.w X.xe _ ⟨rfl, H, I, Ext.rfl'⟩
  · refine GQ.eqBool_refG e (wpAny_mono h (fun r s' q => ?_) fun _ _ x => x)
    obtain ⟨hr, q⟩ := q
    exact ⟨b, hr, rfl, q⟩
section
variable (hK : D.K = X.K) (uq : UqT D) (T : TblAt X.prog X.w X.K X.mg X.base D k "__eq__" tab) (du : ∀ c f, tab.lookup c = some f → DunAt D c)
include hK uq T du
theorem base_rc {A : Around} {x y : PV} {b : Bool} {v w : V} {u u' : Value} (h : EqBase tab x y b) (le : LeG G H) (r1 : RepH D G H x v) (r2 : RepH D G H y w) (I : Inv X pins σ H s) (ru : RelV v u) (ru' : RelV w u') (sb : SubJ X k j A) : wpAny (model X.prog X.w) A (richCompare .Eq u u') (RPost X pins σ H b) X.xe s := by
  rcases h with ⟨d, e, h1, h2, rfl⟩ | ⟨ks, ls, rfl, rfl, h3, h4, rfl, _⟩ | ⟨c, fs, gs, f, r, rfl, rfl, hf, e, _⟩
  · obtain ⟨as, bs, q1, q2, q3, q4⟩ := dat_reads (A := A) hK le h1 h2 r1 r2 I ru ru'
    exact SeqAt.compareEq_shaped q1 q2 q3 q4 (by have := sb.un; omega) ⟨rfl, H, I, Ext.rfl'⟩
  · exact (rc_dct h3 h4 le r1 r2 I ru ru' sb.u0).1
  · exact rc_obj (T c f hf) (du c f hf) sb (LeG.refl H) e (rep_H le r1) (rep_H le r2) I ru ru'
theorem eqA_run : ∀ n j, n ≤ j → RunB D X k j (EqA tab n) ∧ RunC D X k j (EqA tab n)
  | 0, j, _ => by
    refine ⟨fun A pins s σ G H x y b v w u u' h le r1 r2 I ru ru' sb => ?_, fun A pins s σ G H x y b v w u u' h le r1 r2 I ru ru' sb => base_rc hK uq T du h le r1 r2 I ru ru' sb⟩
    have q := base_rc hK uq T du h le (r1.toH le) (r2.toH le) I ru ru' sb
    rcases h with ⟨d, e, h1, h2, rfl⟩ | ⟨ks, ls, rfl, rfl, _, _, _, hb⟩ | ⟨c, fs, gs, f, r, rfl, rfl, hf, e, hb⟩
    · obtain ⟨as, bs, q1, q2, q3, q4⟩ := dat_reads (A := A) hK le h1 h2 (r1.toH le) (r2.toH le) I ru ru'
      exact SeqAt.eqAt_reads d e A s u u' as bs q1 q2 (SeqAt.canLay_of_shaped q3) (SeqAt.canLay_of_shaped q4) (SeqAt.room_of_shaped q3 (by have := sb.un; omega)) X.prog X.w X.xe _ ⟨rfl, H, I, Ext.rfl'⟩
    · exact eqB_refs hK uq le I r1 r2 ru ru' (fun z => hb (by injection z)) (ref_of (.inr (.inr (.inl ⟨_, rfl⟩))) r1) (ref_of (.inr (.inr (.inl ⟨_, rfl⟩))) r2) q
    · exact eqB_refs hK uq le I r1 r2 ru ru' (fun z => hb (by injection z)) (ref_of (.inr (.inr (.inr ⟨_, _, rfl⟩))) r1) (ref_of (.inr (.inr (.inr ⟨_, _, rfl⟩))) r2) q
  | n + 1, 0, h => by omega
  | n + 1, j + 1, hj => by
    have ih := (eqA_run n j (by omega)).1
    have z0 := eqA_run 0 (j + 1) (Nat.zero_le _)
    have rc : RunC D X k (j + 1) (EqA tab (n + 1)) := by
      intro A pins s σ G H x y b v w u u' h le r1 r2 I ru ru' sb
      rcases h with h | ⟨xs, ys, rfl, rfl, h⟩ | ⟨xs, ys, rfl, rfl, h⟩
      · exact z0.2 A pins s σ G H x y b v w u u' h le r1 r2 I ru ru' sb
      · rcases h with ⟨hl, rfl⟩ | ⟨hl, el⟩
        · obtain ⟨a, vs, rfl, sa, ra⟩ := r1.lst
          obtain ⟨c, ws, rfl, sc, rc⟩ := r2.lst
          cases ru
          cases ru'
          obtain ⟨its, rv, p1, _⟩ := I.list (hK ▸ sa)
          obtain ⟨its2, rv2, p2, _⟩ := I.list (hK ▸ sc)
          exact SeqAt.RcAt.lists_lengths (A := A) (s := s) p1.isList p2.isList (by
            have z1 : its.toArray.size = xs.length := by rw [List.size_toArray, ← rv.length, ra.length]
            have z2 : its2.toArray.size = ys.length := by rw [List.size_toArray, ← rv2.length, rc.length]
            rw [z1, z2]; simpa using hl) sb.u0 X.prog X.w X.xe _ ⟨rfl, H, I, Ext.rfl'⟩
        · exact (rc_list ih sb hK hl el le r1 r2 I ru ru').1
      · exact (rc_tup ih sb hK h le r1 r2 I ru ru').1
    refine ⟨fun A pins s σ G H x y b v w u u' h le r1 r2 I ru ru' sb => ?_, rc⟩
    have q := rc A pins s σ G H x y b v w u u' h le (r1.toH le) (r2.toH le) I ru ru' sb
    have hb : x = y → b = true := fun z => eqA_refl (tab := tab) (n + 1) y b (z ▸ h)
    rcases h with h | ⟨xs, ys, rfl, rfl, h⟩ | ⟨xs, ys, rfl, rfl, h⟩
    · exact z0.1 A pins s σ G H x y b v w u u' h le r1 r2 I ru ru' sb
    · exact eqB_refs hK uq le I r1 r2 ru ru' hb (ref_of (.inl ⟨_, rfl⟩) r1) (ref_of (.inl ⟨_, rfl⟩) r2) q
    · exact eqB_refs hK uq le I r1 r2 ru ru' hb (ref_of (.inr (.inl ⟨_, rfl⟩)) r1) (ref_of (.inr (.inl ⟨_, rfl⟩)) r2) q
end
/-! ### one answer -/
theorem shaped_items {ds : List PyData} (h : SeqAt.shaped (.list ds) = true ∨ SeqAt.shaped (.tuple ds) = true) : ∀ d ∈ ds, SeqAt.shaped d = true := by
  have key : PyData.canLayAll0 ds = true ∧ PyData.depthAll ds ≤ 63 := by
    rcases h with h | h
    · have h1 := SeqAt.canLay_of_shaped h
      have h2 := SeqAt.depth_of_shaped h
      rw [PyData.canLay0] at h1
      rw [PyData.depth] at h2
      exact ⟨h1, by omega⟩
    · have h1 := SeqAt.canLay_of_shaped h
      have h2 := SeqAt.depth_of_shaped h
      rw [PyData.canLay0] at h1
      rw [PyData.depth] at h2
      exact ⟨h1, by omega⟩
  obtain ⟨h1, h2⟩ := key
  clear h
  induction ds with
  | nil => intro d hd; cases hd
  | cons a ds ih =>
    rw [PyData.canLayAll0, Bool.and_eq_true] at h1
    rw [PyData.depthAll] at h2
    intro d hd
    rcases List.mem_cons.mp hd with rfl | hd
    · unfold SeqAt.shaped
      rw [h1.1, Bool.true_and, decide_eq_true_eq]
      omega
    · exact ih h1.2 (by omega) d hd
theorem toDs_items : ∀ {xs : List PV} {ds : List PyData}, toDs xs = some ds → (∀ d ∈ ds, SeqAt.shaped d = true) → ∀ x ∈ xs, ∃ d, x.dat = some d
  | [], ds, _, _, x, hx => by cases hx
  | a :: xs, ds, h, hs, x, hx => by
    rw [toDs] at h
    cases h1 : a.toD with
    | none => rw [h1] at h; cases h
    | some d =>
      cases h2 : toDs xs with
      | none => rw [h1, h2] at h; cases h
      | some es =>
        rw [h1, h2] at h
        cases h
        rcases List.mem_cons.mp hx with rfl | hx
        · exact ⟨d, by unfold PV.dat; rw [h1]; exact if_pos (hs d List.mem_cons_self)⟩
        · exact toDs_items h2 (fun e he => hs e (List.mem_cons_of_mem _ he)) x hx
theorem dat_lstI {xs : List PV} {d : PyData} (h : (PV.lst xs).dat = some d) : ∀ x ∈ xs, ∃ e, x.dat = some e := by
  obtain ⟨h1, h2⟩ := PV.dat_of h
  rw [PV.toD] at h1
  cases q : toDs xs with
  | none => rw [q] at h1; cases h1
  | some ds =>
    rw [q] at h1
    cases h1
    exact toDs_items q (shaped_items (.inl h2))
theorem dat_tupI {xs : List PV} {d : PyData} (h : (PV.tup xs).dat = some d) : ∀ x ∈ xs, ∃ e, x.dat = some e := by
  obtain ⟨h1, h2⟩ := PV.dat_of h
  rw [PV.toD] at h1
  cases q : toDs xs with
  | none => rw [q] at h1; cases h1
  | some ds =>
    rw [q] at h1
    cases h1
    exact toDs_items q (shaped_items (.inr h2))
theorem dat_eqv {x y : PV} {d e : PyData} (h : x.dat = some d) (h2 : y.dat = some e) : PyData.eqv d e = eqP x y := eqv_eqP x y d e (PV.dat_of h).1 (PV.dat_of h2).1
theorem eqPs_len : ∀ {xs ys : List PV}, xs.length ≠ ys.length → eqPs xs ys = false
  | [], [], h => absurd rfl h
  | [], _ :: _, _ => by simp [eqPs]
  | _ :: _, [], _ => by simp [eqPs]
  | x :: xs, y :: ys, h => by
    rw [eqPs, eqPs_len (by simpa using h), Bool.and_false]
theorem els_eqP {R : PV → PV → Bool → Prop} : ∀ {xs ys : List PV} {b : Bool}, (∀ x ∈ xs, ∀ y ∈ ys, ∀ b, R x y b → eqP x y = b) → Els R xs ys b → eqPs xs ys = b
  | _, _, _, _, .nil => by simp [eqPs]
  | _, _, _, _, .l => by simp [eqPs]
  | _, _, _, _, .r => by simp [eqPs]
  | _, _, _, h, .t r e => by
    rw [eqPs, h _ List.mem_cons_self _ List.mem_cons_self _ r, els_eqP (fun x hx y hy => h x (List.mem_cons_of_mem _ hx) y (List.mem_cons_of_mem _ hy)) e, Bool.true_and]
  | _, _, _, h, .f r => by
    rw [eqPs, h _ List.mem_cons_self _ List.mem_cons_self _ r, Bool.false_and]
theorem base_dat {x y : PV} {b : Bool} {d e : PyData} (h : EqBase tab x y b) (h1 : x.dat = some d) (h2 : y.dat = some e) : eqP x y = b := by
  rcases h with ⟨d', e', q1, q2, rfl⟩ | ⟨ks, ls, rfl, _⟩ | ⟨c, fs, gs, f, r, rfl, _⟩
  · exact (dat_eqv q1 q2).symm
  · cases h1
  · cases h1
theorem eqA_dat : ∀ (n : Nat) (x y : PV) (b : Bool), EqA tab n x y b → ∀ d e, x.dat = some d → y.dat = some e → eqP x y = b
  | 0, x, y, b, h, d, e, h1, h2 => base_dat h h1 h2
  | n + 1, x, y, b, h, d, e, h1, h2 => by
    rcases h with h | ⟨xs, ys, rfl, rfl, h⟩ | ⟨xs, ys, rfl, rfl, h⟩
    · exact base_dat h h1 h2
    · rw [eqP]
      rcases h with ⟨hl, rfl⟩ | ⟨_, h⟩
      · exact eqPs_len hl
      · exact els_eqP (fun x hx y hy b hb => by
          obtain ⟨d', q1⟩ := dat_lstI h1 x hx
          obtain ⟨e', q2⟩ := dat_lstI h2 y hy
          exact eqA_dat n x y b hb d' e' q1 q2) h
    · rw [eqP]
      exact els_eqP (fun x hx y hy b hb => by
        obtain ⟨d', q1⟩ := dat_tupI h1 x hx
        obtain ⟨e', q2⟩ := dat_tupI h2 y hy
        exact eqA_dat n x y b hb d' e' q1 q2) h
theorem els_uq {R S : PV → PV → Bool → Prop} (h : ∀ x y b b', R x y b → S x y b' → b = b') : ∀ {xs ys : List PV} {b b' : Bool}, Els R xs ys b → Els S xs ys b' → b = b'
  | _, _, _, _, .nil, e => by cases e; rfl
  | _, _, _, _, .l, e => by cases e; rfl
  | _, _, _, _, .r, e => by cases e; rfl
  | _, _, _, _, .t r q, e => by
    cases e with
    | t r2 q2 => exact els_uq h q q2
    | f r2 => cases h _ _ _ _ r r2
  | _, _, _, _, .f r, e => by
    cases e with
    | t r2 q2 => cases h _ _ _ _ r r2
    | f r2 => rfl
theorem base_uq {x y : PV} {b b' : Bool} (h : EqBase tab x y b) (h' : EqBase tab x y b') : b = b' := by
  rcases h with ⟨d, e, q1, q2, rfl⟩ | ⟨ks, ls, rfl, rfl, _, _, e1, _⟩ | ⟨c, fs, gs, f, r, rfl, rfl, hf, e1, _⟩
  · exact (dat_eqv q1 q2).trans (base_dat h' q1 q2)
  · rcases h' with ⟨d, e, q1, q2, _⟩ | ⟨ks', ls', z1, z2, _, _, e2, _⟩ | ⟨_, _, _, _, _, z, _⟩
    · cases q1
    · cases z1; cases z2; exact e1.symm.trans e2
    · cases z
  · rcases h' with ⟨d, e, q1, q2, _⟩ | ⟨_, _, z, _⟩ | ⟨c', fs', gs', f', r', z1, z2, hf', e2, _⟩
    · cases q1
    · cases z
    · cases z1
      cases z2
      rw [hf] at hf'
      cases hf'
      rw [e1] at e2
      injection e2 with e2 _
      injection e2 with e2
      injection e2
theorem base_seq {R : PV → PV → Bool → Prop} {x y : PV} {b b' : Bool} (h : EqBase tab x y b) (h' : EqSeq R x y b') : ∃ d e, x.dat = some d ∧ y.dat = some e ∧ eqP x y = b := by
  rcases h with ⟨d, e, q1, q2, rfl⟩ | ⟨ks, ls, rfl, rfl, _⟩ | ⟨c, fs, gs, f, r, rfl, rfl, _⟩
  · exact ⟨d, e, q1, q2, (dat_eqv q1 q2).symm⟩
  · rcases h' with ⟨_, _, z, _⟩ | ⟨_, _, z, _⟩ <;> cases z
  · rcases h' with ⟨_, _, z, _⟩ | ⟨_, _, z, _⟩ <;> cases z
theorem eqA_uq : ∀ (n : Nat) (x y : PV) (b : Bool), EqA tab n x y b → ∀ m b', EqA tab m x y b' → b = b'
  | 0, x, y, b, h, 0, b', h' => base_uq h h'
  | 0, x, y, b, h, m + 1, b', h' => by
    rcases h' with h' | h'
    · exact base_uq h h'
    · obtain ⟨d, e, q1, q2, q3⟩ := base_seq h h'
      exact q3.symm.trans (eqA_dat (m + 1) x y b' (.inr h') d e q1 q2)
  | n + 1, x, y, b, h, 0, b', h' => by
    rcases h with h | h
    · exact base_uq h h'
    · obtain ⟨d, e, q1, q2, q3⟩ := base_seq h' h
      exact (eqA_dat (n + 1) x y b (.inr h) d e q1 q2).symm.trans q3
  | n + 1, x, y, b, h, m + 1, b', h' => by
    rcases h with h | h
    · rcases h' with h' | h'
      · exact base_uq h h'
      · obtain ⟨d, e, q1, q2, q3⟩ := base_seq h h'
        exact q3.symm.trans (eqA_dat (m + 1) x y b' (.inr h') d e q1 q2)
    · rcases h' with h' | h'
      · obtain ⟨d, e, q1, q2, q3⟩ := base_seq h' h
        exact (eqA_dat (n + 1) x y b (.inr h) d e q1 q2).symm.trans q3
      · rcases h with ⟨xs, ys, rfl, rfl, h⟩ | ⟨xs, ys, rfl, rfl, h⟩
        · rcases h' with ⟨xs', ys', z1, z2, h'⟩ | ⟨_, _, z, _⟩
          · cases z1
            cases z2
            rcases h with ⟨hl, rfl⟩ | ⟨hl, h⟩
            · rcases h' with ⟨_, rfl⟩ | ⟨hl', _⟩
              · rfl
              · exact absurd hl' hl
            · rcases h' with ⟨hl', _⟩ | ⟨_, h'⟩
              · exact absurd hl hl'
              · exact els_uq (fun x y b b' r r' => eqA_uq n x y b r m b' r') h h'
          · cases z
        · rcases h' with ⟨_, _, z, _⟩ | ⟨xs', ys', z1, z2, h'⟩
          · cases z
          · cases z1
            cases z2
            exact els_uq (fun x y b b' r r' => eqA_uq n x y b r m b' r') h h'
/-! ### as an expression -/
open Classical in
/-- x == y, where something is known of it -/
noncomputable def pyEqA (tab : List (Nat × FM)) (x y : PV) : Option PV := if h : ∃ b n, n ≤ 14 ∧ EqA tab n x y b then some (.bl h.choose) else none
def notObj : PV → Bool
  | .obj _ _ => false
  | _ => true
open Classical in
noncomputable def pyNeA (tab : List (Nat × FM)) (x y : PV) : Option PV := if h : notObj x = true ∧ ∃ b n, n ≤ 14 ∧ EqA tab n x y b then some (.bl (!h.2.choose)) else none
theorem pyEqA_of {n : Nat} {x y : PV} {b : Bool} (hn : n ≤ 14) (h : EqA tab n x y b) : pyEqA tab x y = some (.bl b) := by
  have hx : ∃ b n, n ≤ 14 ∧ EqA tab n x y b := ⟨b, n, hn, h⟩
  unfold pyEqA
  rw [dif_pos hx]
  obtain ⟨m, _, h2⟩ := hx.choose_spec
  rw [eqA_uq n x y b h m _ h2]
theorem pyNeA_of {n : Nat} {x y : PV} {b : Bool} (ho : notObj x = true) (hn : n ≤ 14) (h : EqA tab n x y b) : pyNeA tab x y = some (.bl (!b)) := by
  have hx : notObj x = true ∧ ∃ b n, n ≤ 14 ∧ EqA tab n x y b := ⟨ho, b, n, hn, h⟩
  unfold pyNeA
  rw [dif_pos hx]
  obtain ⟨m, _, h2⟩ := hx.2.choose_spec
  rw [eqA_uq n x y b h m _ h2]
theorem pyEqA_some {x y z : PV} (h : pyEqA tab x y = some z) : ∃ b n, n ≤ 14 ∧ EqA tab n x y b ∧ z = .bl b := by
  unfold pyEqA at h
  split at h
  · rename_i hx
    obtain ⟨m, h1, h2⟩ := hx.choose_spec
    cases h
    exact ⟨_, m, h1, h2, rfl⟩
  · cases h
theorem pyNeA_some {x y z : PV} (h : pyNeA tab x y = some z) : notObj x = true ∧ ∃ b n, n ≤ 14 ∧ EqA tab n x y b ∧ z = .bl (!b) := by
  unfold pyNeA at h
  split at h
  · rename_i hx
    obtain ⟨m, h1, h2⟩ := hx.2.choose_spec
    cases h
    exact ⟨hx.1, _, m, h1, h2, rfl⟩
  · cases h
def rEqA (D : Wd) (tab : List (Nat × FM)) : R2 := fun v w H Q => ∃ G x y b n, n ≤ 14 ∧ EqA tab n x y b ∧ LeG G H ∧ RepH D G H x v ∧ RepH D G H y w ∧ ∀ H', Ext H H' → Q (.bl b) H'
def rNeA (D : Wd) (tab : List (Nat × FM)) : R2 := fun v w H Q => ∃ G x y b n, n ≤ 14 ∧ notObj x = true ∧ EqA tab n x y b ∧ LeG G H ∧ RepH D G H x v ∧ RepH D G H y w ∧ ∀ H', Ext H H' → Q (.bl (!b)) H'
section
variable (hK : D.K = X.K) (uq : UqT D) (T : TblAt X.prog X.w X.K X.mg X.base D k "__eq__" tab) (du : ∀ c f, tab.lookup c = some f → DunAt D c)
include hK uq T du
theorem op_eqA (hr : Room (k + 1) X.A) : OpR X (compareOp .Eq) (rEqA D tab) := by
  intro pins s σ H x y v u Q I rx ry h
  obtain ⟨G, px, py, b, n, hn, h, le, r1, r2, q⟩ := h
  show wpAny (model X.prog X.w) X.A (richCompare .Eq v u) (EP X pins σ Q) X.xe s
  refine wpAny_mono ((eqA_run hK uq T du n 14 hn).2 X.A pins s σ G H px py b x y v u h le r1 r2 I rx ry (SubJ.of hr (by decide))) (fun r s' z => ?_) fun _ _ x => x
  obtain ⟨rfl, H', I', e⟩ := z
  exact ⟨.bl b, H', I', rfl, q H' e⟩
theorem op_neA (hr : Room (k + 1) X.A) : OpR X (compareOp .NotEq) (rNeA D tab) := by
  intro pins s σ H x y v u Q I rx ry h
  obtain ⟨G, px, py, b, n, hn, ho, h, le, r1, r2, q⟩ := h
  show wpAny (model X.prog X.w) X.A (richCompare .NotEq v u) (EP X pins σ Q) X.xe s
  have sb : SubJ X k (14 + 1) X.A := SubJ.of hr (by decide)
  have main : wpAny (model X.prog X.w) X.A (richCompare .NotEq v u) (RPost X pins σ H (!b)) X.xe s := by
    have base : EqBase tab px py b → wpAny (model X.prog X.w) X.A (richCompare .NotEq v u) (RPost X pins σ H (!b)) X.xe s := by
      rintro (⟨d, e, h1, h2, rfl⟩ | ⟨ks, ls, rfl, rfl, h3, h4, rfl, _⟩ | ⟨c, fs, gs, f, r, rfl, _⟩)
      · obtain ⟨as, bs, q1, q2, q3, q4⟩ := dat_reads (A := X.A) hK le h1 h2 r1 r2 I rx ry
        exact SeqAt.compareNe_shaped q1 q2 q3 q4 (by have := sb.un; omega) ⟨rfl, H, I, Ext.rfl'⟩
      · exact (rc_dct h3 h4 le r1 r2 I rx ry sb.u0).2
      · cases ho
    cases n with
    | zero => exact base h
    | succ n =>
      have ih := (eqA_run hK uq T du n 14 (by omega)).1
      rcases h with h | ⟨xs, ys, rfl, rfl, h⟩ | ⟨xs, ys, rfl, rfl, h⟩
      · exact base h
      · rcases h with ⟨hl, rfl⟩ | ⟨hl, el⟩
        · obtain ⟨a, vs, rfl, sa, ra⟩ := r1.lst
          obtain ⟨c, ws, rfl, sc, rc⟩ := r2.lst
          cases rx
          cases ry
          obtain ⟨its, rv, p1, _⟩ := I.list (hK ▸ sa)
          obtain ⟨its2, rv2, p2, _⟩ := I.list (hK ▸ sc)
          exact SeqAt.RcNeAt.lists_lengths (A := X.A) (s := s) p1.isList p2.isList (by
            have z1 : its.toArray.size = xs.length := by rw [List.size_toArray, ← rv.length, ra.length]
            have z2 : its2.toArray.size = ys.length := by rw [List.size_toArray, ← rv2.length, rc.length]
            rw [z1, z2]; simpa using hl) sb.u0 X.prog X.w X.xe _ ⟨rfl, H, I, Ext.rfl'⟩
        · exact (rc_list ih sb hK hl el le r1 r2 I rx ry).2
      · exact (rc_tup ih sb hK h le r1 r2 I rx ry).2
  refine wpAny_mono main (fun r s' z => ?_) fun _ _ x => x
  obtain ⟨rfl, H', I', e⟩ := z
  exact ⟨.bl (!b), H', I', rfl, q H' e⟩
end
theorem ext_q {b : Bool} {Q : VK} (l : LeG G H) (q : ∀ (G' H' : Hp) p, Grow G H G' H' → Rep D G' (.bl b) p → Q p H') : ∀ H', Ext H H' → Q (.bl b) H' := fun H' ex => q G H' _ ⟨fun a o h => ex a o (l a o h), fun _ _ h => h, ex, fun _ _ h => .inl h⟩ rfl
theorem sn_eqA : Sn2 D (rEqA D tab) (pyEqA tab) := by
  intro G H x y z v w Q l rx ry e q
  obtain ⟨b, n, hn, h, rfl⟩ := pyEqA_some e
  exact ⟨G, x, y, b, n, hn, h, l, rx, ry, ext_q l q⟩
theorem sn_neA : Sn2 D (rNeA D tab) (pyNeA tab) := by
  intro G H x y z v w Q l rx ry e q
  obtain ⟨ho, b, n, hn, h, rfl⟩ := pyNeA_some e
  exact ⟨G, x, y, b, n, hn, ho, h, l, rx, ry, ext_q l q⟩
/-! how it is used -/
theorem eqA_base {n : Nat} {x y : PV} {b : Bool} (h : EqBase tab x y b) : EqA tab n x y b := by
  cases n with
  | zero => exact h
  | succ n => exact .inl h
theorem eqA_P {n m m' : Nat} {x y : PV} (hx : Dat m x) (hy : Dat m' y) (h1 : m ≤ 64) (h2 : m' ≤ 64) : EqA tab n x y (eqP x y) := by
  obtain ⟨d, e1, c1, l1⟩ := dat_toD m x hx
  obtain ⟨e, e2, c2, l2⟩ := dat_toD m' y hy
  have hd : x.dat = some d := by
    unfold PV.dat
    rw [e1]
    exact if_pos (by unfold SeqAt.shaped; rw [c1, Bool.true_and, decide_eq_true_eq]; omega)
  have he : y.dat = some e := by
    unfold PV.dat
    rw [e2]
    exact if_pos (by unfold SeqAt.shaped; rw [c2, Bool.true_and, decide_eq_true_eq]; omega)
  exact eqA_base (.inl ⟨d, e, hd, he, dat_eqv hd he⟩)
theorem eqA_dct {n : Nat} {ks ls : List (Key × PV)} {b : Bool} (h1 : FlatD ks) (h2 : FlatD ls) (h3 : dctEq ks ls = b) (h4 : ks = ls → b = true) : EqA tab n (.dct ks) (.dct ls) b := eqA_base (.inr (.inl ⟨ks, ls, rfl, rfl, h1, h2, h3, h4⟩))
theorem eqA_obj {n c : Nat} {fs gs : List (Str × PV)} {f : FM} {r : List Slot} {b : Bool} (hf : tab.lookup c = some f) (e : f [.val (.obj c fs), .val (.obj c gs)] = .ok (.v (.bl b)) r) (h : fs = gs → b = true) : EqA tab n (.obj c fs) (.obj c gs) b := eqA_base (.inr (.inr ⟨c, fs, gs, f, r, rfl, rfl, hf, e, h⟩))
theorem eqA_lst {n : Nat} {xs ys : List PV} {b : Bool} (hl : xs.length = ys.length) (h : Els (EqA tab n) xs ys b) : EqA tab (n + 1) (.lst xs) (.lst ys) b := .inr (.inl ⟨xs, ys, rfl, rfl, .inr ⟨hl, h⟩⟩)
theorem eqA_lens {n : Nat} {xs ys : List PV} (hl : xs.length ≠ ys.length) : EqA tab (n + 1) (.lst xs) (.lst ys) false := .inr (.inl ⟨xs, ys, rfl, rfl, .inl ⟨hl, rfl⟩⟩)
theorem eqA_tup {n : Nat} {xs ys : List PV} {b : Bool} (h : Els (EqA tab n) xs ys b) : EqA tab (n + 1) (.tup xs) (.tup ys) b := .inr (.inr ⟨xs, ys, rfl, rfl, h⟩)
/-- all items are equal -/
theorem els_all {R : PV → PV → Bool → Prop} {α : Type} (f g : α → PV) : ∀ {as : List α}, (∀ a ∈ as, R (f a) (g a) true) → Els R (as.map f) (as.map g) true
  | [], _ => .nil
  | a :: as, h => .t (h a List.mem_cons_self) (els_all f g fun b hb => h b (List.mem_cons_of_mem _ hb))
theorem els_same {R : PV → PV → Bool → Prop} : ∀ {xs : List PV}, (∀ x ∈ xs, R x x true) → Els R xs xs true
  | [], _ => .nil
  | a :: as, h => .t (h a List.mem_cons_self) (els_same fun b hb => h b (List.mem_cons_of_mem _ hb))
theorem dctEq_same {ks : List (Key × PV)} (nd : (ks.map (·.1)).Nodup) (fl : FlatD ks) : dctEq ks ks = true := by
  have key : ∀ p ∈ ks, dget ks p.1 = some p.2 := by
    clear fl
    induction ks with
    | nil => intro p hp; cases hp
    | cons a ks ih =>
      rw [List.map_cons, List.nodup_cons] at nd
      intro p hp
      rw [dget_cons]
      rcases List.mem_cons.mp hp with rfl | hp
      · rw [if_pos rfl]
      · rw [if_neg (fun z => nd.1 (by rw [z]; exact List.mem_map_of_mem hp))]
        exact ih nd.2 p hp
  unfold dctEq
  rw [beq_self_eq_true, Bool.true_and, List.all_eq_true]
  intro p hp
  rw [key p hp]
  have := fl p hp
  cases h : p.2 <;> rw [h] at this <;> first | (simp [flatP] at this; done) | simp [eqP]
theorem dun_nil : ∀ c f, ([] : List (Nat × FM)).lookup c = some f → DunAt D c := fun c f z => by cases z
theorem dun_cons {c : Nat} {f : FM} {tab : List (Nat × FM)} (u : DunAt D c) (h : ∀ c f, tab.lookup c = some f → DunAt D c) : ∀ e g, ((c, f) :: tab).lookup e = some g → DunAt D e := fun e g q => by
  rw [List.lookup_cons] at q
  by_cases z : e = c
  · rw [z]; exact u
  · have : (e == c) = false := by simpa using z
    rw [this] at q
    exact h e g q
/-! ### with what is known of plain data -/
noncomputable def pyEqB (tab : List (Nat × FM)) (x y : PV) : Option PV := orS (pyEq x y) (pyEqA tab x y)
noncomputable def pyNeB (tab : List (Nat × FM)) (x y : PV) : Option PV := orS (pyNe x y) (pyNeA tab x y)
theorem eqB_flat {x y z : PV} (h : pyEq x y = some z) : pyEqB tab x y = some z := by unfold pyEqB; rw [h]; rfl
theorem neB_flat {x y z : PV} (h : pyNe x y = some z) : pyNeB tab x y = some z := by unfold pyNeB; rw [h]; rfl
theorem scal_dat {n : Nat} {x y : PV} {b k : Bool} (h : EqA tab n x y b) (e : scalE x y = some k) : k = b := by
  have key : EqBase tab x y b := by
    cases n with
    | zero => exact h
    | succ n =>
      rcases h with h | ⟨xs, ys, rfl, rfl, _⟩ | ⟨xs, ys, rfl, rfl, _⟩
      · exact h
      · cases e
      · cases e
  rcases key with ⟨d, d', q1, q2, rfl⟩ | ⟨ks, ls, rfl, rfl, _⟩ | ⟨c, fs, gs, f, r, rfl, rfl, _⟩
  · rw [dat_eqv q1 q2]
    unfold scalE at e
    split at e <;> first | (cases e; simp [eqP]; done) | (cases e; rw [eqP]; rw [Bool.eq_iff_iff]; simp; done) | cases e
  · cases e
  · cases e
theorem eqQ_A {n : Nat} {x y : PV} {b k : Bool} (h : EqA tab n x y b) (e : eqQ x y = some k) : k = b := by
  unfold eqQ at e
  split at e
  · rename_i k' q
    cases e
    exact scal_dat h q
  · unfold eqD at e
    split at e
    · rename_i d d' q1 q2
      cases e
      rw [dat_eqv q1 q2]
      exact eqA_dat n x y b h d d' q1 q2
    · cases e
theorem pyEqB_of {n : Nat} {x y : PV} {b : Bool} (hn : n ≤ 14) (h : EqA tab n x y b) : pyEqB tab x y = some (.bl b) := by
  unfold pyEqB
  cases q : pyEq x y with
  | none => exact pyEqA_of hn h
  | some z =>
    unfold pyEq at q
    cases e : eqQ x y with
    | none => rw [e] at q; cases q
    | some k =>
      rw [e] at q
      cases q
      rw [eqQ_A h e]
      rfl
theorem pyNeB_of {n : Nat} {x y : PV} {b : Bool} (ho : notObj x = true) (hn : n ≤ 14) (h : EqA tab n x y b) : pyNeB tab x y = some (.bl (!b)) := by
  unfold pyNeB
  cases q : pyNe x y with
  | none => exact pyNeA_of ho hn h
  | some z =>
    unfold pyNe at q
    cases e : eqQ x y with
    | none => rw [e] at q; cases q
    | some k =>
      rw [e] at q
      cases q
      rw [eqQ_A h e]
      rfl
def rEqB (D : Wd) (K : PySem.W.Frag) (tab : List (Nat × FM)) : R2 := fun x y H Q => rEqP K x y H Q ∨ rEqA D tab x y H Q
def rNeB (D : Wd) (K : PySem.W.Frag) (tab : List (Nat × FM)) : R2 := fun x y H Q => rNeP K x y H Q ∨ rNeA D tab x y H Q
theorem op_eqB (hK : D.K = X.K) (uq : UqT D) (T : TblAt X.prog X.w X.K X.mg X.base D k "__eq__" tab) (du : ∀ c f, tab.lookup c = some f → DunAt D c) (hr : Room (k + 1) X.A) : OpR X (compareOp .Eq) (rEqB D X.K tab) := (op_eqP hr.units).or (op_eqA hK uq T du hr)
theorem op_neB (hK : D.K = X.K) (uq : UqT D) (T : TblAt X.prog X.w X.K X.mg X.base D k "__eq__" tab) (du : ∀ c f, tab.lookup c = some f → DunAt D c) (hr : Room (k + 1) X.A) : OpR X (compareOp .NotEq) (rNeB D X.K tab) := (op_neP hr.units).or (op_neA hK uq T du hr)
theorem sn_eqB : Sn2 D (rEqB D D.K tab) (pyEqB tab) := by
  intro G H x y z v w Q l rx ry e q
  unfold pyEqB at e
  cases h : pyEq x y with
  | some z' => rw [h] at e; cases e; exact .inl (sn_eq G H x y _ v w Q l rx ry h q)
  | none => rw [h] at e; exact .inr (sn_eqA G H x y z v w Q l rx ry e q)
theorem sn_neB : Sn2 D (rNeB D D.K tab) (pyNeB tab) := by
  intro G H x y z v w Q l rx ry e q
  unfold pyNeB at e
  cases h : pyNe x y with
  | some z' => rw [h] at e; cases e; exact .inl (sn_ne G H x y _ v w Q l rx ry h q)
  | none => rw [h] at e; exact .inr (sn_neA G H x y z v w Q l rx ry e q)
@[simp] theorem eqB_int (i j : Int) : pyEqB tab (.int i) (.int j) = some (.bl (decide (i = j))) := eqB_flat (eq_int i j)
@[simp] theorem neB_int (i j : Int) : pyNeB tab (.int i) (.int j) = some (.bl (!decide (i = j))) := neB_flat (ne_int i j)
@[simp] theorem eqB_str (i j : Str) : pyEqB tab (.str i) (.str j) = some (.bl (decide (i = j))) := eqB_flat (eq_str i j)
@[simp] theorem neB_str (i j : Str) : pyNeB tab (.str i) (.str j) = some (.bl (!decide (i = j))) := neB_flat (ne_str i j)
@[simp] theorem eqB_bl (i j : Bool) : pyEqB tab (.bl i) (.bl j) = some (.bl (i == j)) := eqB_flat (eq_bl i j)
end
end TR

set_option Elab.async false
set_option linter.all false
set_option maxRecDepth 100000
/-! the defs of law_k12_columns_refused -/
namespace Gk
open PySem PySem.Spec L2 TR
set_option autoImplicit false
noncomputable section

def top (i : Nat) : Stmt := PySem.Challenge.pw_tworows_k12_columns_refused.main.body.getD i (.Pass ⟨0, 0, 0, 0⟩)
/-- the own classes, by number -/
def clsT (mg : Str → Option Value) (c : Nat) (C : Addr) : Prop := (c = 3 ∧ mg "Test" = some (.ref C)) ∨ (c = 5 ∧ mg "Shape" = some (.ref C))
/-- the own exceptions, by number -/
def excT (mg : Str → Option Value) (c : Nat) (C : Addr) : Prop := (c = 21 ∧ mg "BadShape" = some (.ref C)) ∨ (c = 22 ∧ mg "BadRow" = some (.ref C))
@[reducible] def DW (K : PySem.W.Frag) (mg : Str → Option Value) : Wd := ⟨K, clsT mg, excT mg, none⟩
theorem cls_3 {mg : Str → Option Value} {C : Addr} : clsT mg 3 C ↔ mg "Test" = some (.ref C) := by unfold clsT; simp
theorem cls_5 {mg : Str → Option Value} {C : Addr} : clsT mg 5 C ↔ mg "Shape" = some (.ref C) := by unfold clsT; simp
def c_CHARS : Str := " !\"#$&'()*+,-./0123456789:;<=>?@ABCDEFGHIJKLMNOPQRSTUVWXYZ[\\]^_`abcdefghijklmnopqrstuvwxyz{|}~"
def c_DIGITS : Str := "0123456789"
def c_KEPT_WORDS : List PV := [(.str "and"), (.str "or"), (.str "not"), (.str "sure"), (.str "in"), (.str "is"), (.str "empty"), (.str "begins"), (.str "always"), (.str "never")]
def c_LETTERS : Str := "abcdefghijklmnopqrstuvwxyz"
structure BN (K : PySem.W.Frag) (mg : Str → Option Value) : Prop where
  hT : IsAll (DW K mg)
  b_bool : mg "bool" = none
  b_enumerate : mg "enumerate" = none
  b_int : mg "int" = none
  b_isinstance : mg "isinstance" = none
  b_len : mg "len" = none
  b_list : mg "list" = none
  b_range : mg "range" = none
  b_str : mg "str" = none
  b_tuple : mg "tuple" = none
  g_CHARS : GlV (DW K mg) mg "CHARS" (.str c_CHARS)
  g_DIGITS : GlV (DW K mg) mg "DIGITS" (.str c_DIGITS)
  g_KEPT_WORDS : GlV (DW K mg) mg "KEPT_WORDS" (.tup c_KEPT_WORDS)
  g_LETTERS : GlV (DW K mg) mg "LETTERS" (.str c_LETTERS)
  g_MOST_COLUMNS : GlV (DW K mg) mg "MOST_COLUMNS" (.int 12)
  g_MOST_RULES : GlV (DW K mg) mg "MOST_RULES" (.int 9)
  f_3__data : CF (DW K mg) "_data" 3
  f_3__kind : CF (DW K mg) "_kind" 3
  f_3__parts : CF (DW K mg) "_parts" 3
  f_5__checks : CF (DW K mg) "_checks" 5
  f_5__columns : CF (DW K mg) "_columns" 5
  f_5__unique : CF (DW K mg) "_unique" 5
  i_Test : IsAt (DW K mg) mg "Test" [3]
  c_BadShape : CatchAt (DW K mg) mg "BadShape" [21]
  x_at : XfAt (DW K mg) "at"
  x_why : XfAt (DW K mg) "why"
  v_BadRow : XiAt (DW K mg) mg "BadRow" [22]
  v_RowsError : XiAt (DW K mg) mg "RowsError" [21, 22]
  uq : UqT (DW K mg)
abbrev s__law_begin : Stmt := top 44
abbrev n__law_begin : List Str := ["_law_script"]
theorem sc__law_begin : FnScope n__law_begin ["_law_script"] (defScope s__law_begin) := ⟨rfl, rfl, rfl, by decide +kernel, rfl, by decide +kernel, by decide +kernel⟩
def q__law_begin_1  : SM := (retO (lstM (argV (frz (listM (slN 0 noP (someP (cst (.int 63)))))) (argV (cst (.int 0)) (argV (cst (.int 0)) (argV (cst (.int 1)) (argV (cst (.int 0)) argNil)))))))
@[simp] theorem e__law_begin_1  (ρ : Ev) : q__law_begin_1  ρ = (retO (lstM (argV (frz (listM (slN 0 noP (someP (cst (.int 63)))))) (argV (cst (.int 0)) (argV (cst (.int 0)) (argV (cst (.int 1)) (argV (cst (.int 0)) argNil))))))) ρ := (rfl)
def m__law_begin : FM := fnB 1 1
  q__law_begin_1
theorem em__law_begin (as : List Slot) : m__law_begin as = if as.length = 1 then fin 1 as (q__law_begin_1 (enter 1 as)) else .stuck := ev_fn _ _ _ as
theorem ok__law_begin {P : Program} {w : World} {K : PySem.W.Frag} {mg : Str → Option Value} {base : Heap} (B : BN K mg) (d : DefAt K mg "_law_begin" s__law_begin ["_law_script"]) : FnAt P w K mg base (DW K mg) 1 "_law_begin" ["_law_script"] m__law_begin :=
  fn_at d sc__law_begin rfl (by decide) fun cdv A outer s H E hr tk =>
  (ss_one (s_retO (rn_lst (ra_v (re_frz (rn_list rfl (rp_of (re_slN rfl (pv 0) ro_none (ro_some re_int))) rfl B.b_list)) (ra_v re_int (ra_v re_int (ra_v re_int (ra_v re_int ra_nil))))))))
abbrev s__law_take : Stmt := top 45
abbrev n__law_take : List Str := ["_law_draw", "_law_many", "_law_cell", "_law_digit", "_law_mixed"]
theorem sc__law_take : FnScope n__law_take ["_law_draw", "_law_many"] (defScope s__law_take) := ⟨rfl, rfl, rfl, by decide +kernel, rfl, by decide +kernel, by decide +kernel⟩
def q__law_take_2  : SM := (setM 2 (bin pyIx (binN pyIx 0 (cst (.int 0))) (binN pyIx 0 (cst (.int 1)))))
@[simp] theorem e__law_take_2  (ρ : Ev) : q__law_take_2  ρ = (setM 2 (bin pyIx (binN pyIx 0 (cst (.int 0))) (binN pyIx 0 (cst (.int 1))))) ρ := (rfl)
def q__law_take_3  : SM := (setIx 0 (cst (.int 1)) (bin pyAdd (binN pyIx 0 (cst (.int 1))) (cst (.int 1))))
@[simp] theorem e__law_take_3  (ρ : Ev) : q__law_take_3  ρ = (setIx 0 (cst (.int 1)) (bin pyAdd (binN pyIx 0 (cst (.int 1))) (cst (.int 1)))) ρ := (rfl)
def q__law_take_5  : SM := (setIx 0 (cst (.int 2)) (bin pyMod (callB bInt (argN 2 argNil)) (bin pyPow (bin pyPow (cst (.int 10)) (cst (.int 60))) (cst (.int 15)))))
@[simp] theorem e__law_take_5  (ρ : Ev) : q__law_take_5  ρ = (setIx 0 (cst (.int 2)) (bin pyMod (callB bInt (argN 2 argNil)) (bin pyPow (bin pyPow (cst (.int 10)) (cst (.int 60))) (cst (.int 15))))) ρ := (rfl)
def q__law_take_6  : SM := (setIx 0 (cst (.int 3)) (bin pyMod (callB bInt (argV (bin pyAdd (bin pyAdd (bin pyMul (binN pyIx 0 (cst (.int 3))) (cst (.int 31))) (bin pyMod (callB bInt (argN 2 argNil)) (cst (.int 2147483629)))) (cst (.int 1))) argNil)) (cst (.int 2147483647))))
@[simp] theorem e__law_take_6  (ρ : Ev) : q__law_take_6  ρ = (setIx 0 (cst (.int 3)) (bin pyMod (callB bInt (argV (bin pyAdd (bin pyAdd (bin pyMul (binN pyIx 0 (cst (.int 3))) (cst (.int 31))) (bin pyMod (callB bInt (argN 2 argNil)) (cst (.int 2147483629)))) (cst (.int 1))) argNil)) (cst (.int 2147483647)))) ρ := (rfl)
def q__law_take_4  : SM := (ifM (asB (binN pyGe 2 (bin pyPow (cst (.int 10)) (cst (.int 18)))))
  q__law_take_5
  q__law_take_6)
@[simp] theorem e__law_take_4  (ρ : Ev) : q__law_take_4  ρ = (ifM (asB (binN pyGe 2 (bin pyPow (cst (.int 10)) (cst (.int 18)))))
  q__law_take_5
  q__law_take_6) ρ := (rfl)
def q__law_take_1  : SM := (ifM (andM (asB (bin pyEq (binN pyIx 0 (cst (.int 2))) (cst (.int 0)))) (asB (bin pyLt (binN pyIx 0 (cst (.int 1))) (callB bLen (argV (binN pyIx 0 (cst (.int 0))) argNil)))))
  (seqM q__law_take_2
  (seqM q__law_take_3
  q__law_take_4))
  skipM)
@[simp] theorem e__law_take_1  (ρ : Ev) : q__law_take_1  ρ = (ifM (andM (asB (bin pyEq (binN pyIx 0 (cst (.int 2))) (cst (.int 0)))) (asB (bin pyLt (binN pyIx 0 (cst (.int 1))) (callB bLen (argV (binN pyIx 0 (cst (.int 0))) argNil)))))
  (seqM q__law_take_2
  (seqM q__law_take_3
  q__law_take_4))
  skipM) ρ := (rfl)
def q__law_take_8  : SM := (setM 3 (bin pyMod (callB bInt (argV (binN pyIx 0 (cst (.int 2))) argNil)) (peek 1)))
@[simp] theorem e__law_take_8  (ρ : Ev) : q__law_take_8  ρ = (setM 3 (bin pyMod (callB bInt (argV (binN pyIx 0 (cst (.int 2))) argNil)) (peek 1))) ρ := (rfl)
def q__law_take_9  : SM := (setIx 0 (cst (.int 2)) (bin pyDiv (binN pyIx 0 (cst (.int 2))) (peek 1)))
@[simp] theorem e__law_take_9  (ρ : Ev) : q__law_take_9  ρ = (setIx 0 (cst (.int 2)) (bin pyDiv (binN pyIx 0 (cst (.int 2))) (peek 1))) ρ := (rfl)
def q__law_take_10  : SM := (retV 3)
@[simp] theorem e__law_take_10  (ρ : Ev) : q__law_take_10  ρ = (retV 3) ρ := (rfl)
def q__law_take_7  : SM := (ifM (asB (bin pyGt (binN pyIx 0 (cst (.int 2))) (cst (.int 0))))
  (seqM q__law_take_8
  (seqM q__law_take_9
  q__law_take_10))
  skipM)
@[simp] theorem e__law_take_7  (ρ : Ev) : q__law_take_7  ρ = (ifM (asB (bin pyGt (binN pyIx 0 (cst (.int 2))) (cst (.int 0))))
  (seqM q__law_take_8
  (seqM q__law_take_9
  q__law_take_10))
  skipM) ρ := (rfl)
def q__law_take_11  : SM := (setIx 0 (cst (.int 4)) (bin pyAdd (binN pyIx 0 (cst (.int 4))) (cst (.int 1))))
@[simp] theorem e__law_take_11  (ρ : Ev) : q__law_take_11  ρ = (setIx 0 (cst (.int 4)) (bin pyAdd (binN pyIx 0 (cst (.int 4))) (cst (.int 1)))) ρ := (rfl)
def q__law_take_12  : SM := (setM 4 (bin pyMod (callB bInt (argV (bin pyAdd (binN pyIx 0 (cst (.int 3))) (bin pyMul (cst (.int 40692)) (binN pyIx 0 (cst (.int 4))))) argNil)) (cst (.int 2147483647))))
@[simp] theorem e__law_take_12  (ρ : Ev) : q__law_take_12  ρ = (setM 4 (bin pyMod (callB bInt (argV (bin pyAdd (binN pyIx 0 (cst (.int 3))) (bin pyMul (cst (.int 40692)) (binN pyIx 0 (cst (.int 4))))) argNil)) (cst (.int 2147483647)))) ρ := (rfl)
def q__law_take_13  : SM := (setM 4 (bin pyMod (callB bInt (argV (binN pyPow 4 (cst (.int 5))) argNil)) (cst (.int 2147483647))))
@[simp] theorem e__law_take_13  (ρ : Ev) : q__law_take_13  ρ = (setM 4 (bin pyMod (callB bInt (argV (binN pyPow 4 (cst (.int 5))) argNil)) (cst (.int 2147483647)))) ρ := (rfl)
def q__law_take_14  : SM := (setIx 0 (cst (.int 3)) (bin pyMod (callB bInt (argV (bin pyAdd (binN pyMul 4 (cst (.int 69621))) (binN pyIx 0 (cst (.int 4)))) argNil)) (cst (.int 2147483629))))
@[simp] theorem e__law_take_14  (ρ : Ev) : q__law_take_14  ρ = (setIx 0 (cst (.int 3)) (bin pyMod (callB bInt (argV (bin pyAdd (binN pyMul 4 (cst (.int 69621))) (binN pyIx 0 (cst (.int 4)))) argNil)) (cst (.int 2147483629)))) ρ := (rfl)
def q__law_take_15  : SM := (retM (bin pyMod (callB bInt (argV (bin pyDiv (binN pyIx 0 (cst (.int 3))) (cst (.int 8))) argNil)) (peek 1)))
@[simp] theorem e__law_take_15  (ρ : Ev) : q__law_take_15  ρ = (retM (bin pyMod (callB bInt (argV (bin pyDiv (binN pyIx 0 (cst (.int 3))) (cst (.int 8))) argNil)) (peek 1))) ρ := (rfl)
def m__law_take : FM := fnB 2 5
  (seqM q__law_take_1
  (seqM q__law_take_7
  (seqM q__law_take_11
  (seqM q__law_take_12
  (seqM q__law_take_13
  (seqM q__law_take_14
  q__law_take_15))))))
theorem em__law_take (as : List Slot) : m__law_take as = if as.length = 2 then fin 2 as ((seqM q__law_take_1
  (seqM q__law_take_7
  (seqM q__law_take_11
  (seqM q__law_take_12
  (seqM q__law_take_13
  (seqM q__law_take_14
  q__law_take_15)))))) (enter 5 as)) else .stuck := ev_fn _ _ _ as
theorem ok__law_take {P : Program} {w : World} {K : PySem.W.Frag} {mg : Str → Option Value} {base : Heap} (B : BN K mg) (d : DefAt K mg "_law_take" s__law_take ["_law_draw", "_law_many"]) : FnAt P w K mg base (DW K mg) 1 "_law_take" ["_law_draw", "_law_many"] m__law_take :=
  fn_at d sc__law_take rfl (by decide) fun cdv A outer s H E hr tk =>
  (ss_cons (s_if (rb_w (rw_and (rb_cmp (nomark _) (op_eqP hr.units) sn_eq (re_ixN (hu1 hr) rfl (pv 0) (rp_of re_int)) (rp_of re_int)) (rw_and1 (rb_cmp (nomark _) op_ltP sn_lt (re_ixN (hu1 hr) rfl (pv 0) (rp_of re_int)) (rp_of (re_len rfl (hg := rfl) (hm := B.b_len) (ha := (ra_v (re_ixN (hu1 hr) rfl (pv 0) (rp_of re_int)) ra_nil))))))))
  (ss_cons (s_set (i := 2) sc__law_take.nd rfl (by first | exact Or.inl rfl | exact Or.inr rfl) (re_ix (hu1 hr) rfl (re_ixN (hu1 hr) rfl (pv 0) (rp_of re_int)) (rp_of (re_ixN (hu1 hr) rfl (pv 0) (rp_of re_int)))))
  (ss_cons (s_setIx (i := 0) (hu1 hr) (pv 0) re_int (re_bin op_addP sn_add (re_ixN (hu1 hr) rfl (pv 0) (rp_of re_int)) (rp_of re_int)))
  (ss_one (s_if (rb_cmpN (nomark _) op_geP sn_ge (pv 2) (rp_of (re_bin op_powW sn_pow re_int (rp_of re_int))))
  (ss_one (s_setIx (i := 0) (hu1 hr) (pv 0) re_int (re_bin op_mod sn_mod (re_int1 (hg := rfl) (hm := B.b_int) (ha := (ra_n 2 (pv 2) ra_nil))) (rp_of (re_bin op_powW sn_pow (re_bin op_powW sn_pow re_int (rp_of re_int)) (rp_of re_int))))))
  (ss_one (s_setIx (i := 0) (hu1 hr) (pv 0) re_int (re_bin op_mod sn_mod (re_int1 (hg := rfl) (hm := B.b_int) (ha := (ra_v (re_bin op_addP sn_add (re_bin op_addP sn_add (re_bin op_mulW sn_mul (re_ixN (hu1 hr) rfl (pv 0) (rp_of re_int)) (rp_of re_int)) (rp_of (re_bin op_mod sn_mod (re_int1 (hg := rfl) (hm := B.b_int) (ha := (ra_n 2 (pv 2) ra_nil))) (rp_of re_int)))) (rp_of re_int)) ra_nil))) (rp_of re_int))))))))
  ss_nil)
  (ss_cons (s_if (rb_cmp (nomark _) op_gtP sn_gt (re_ixN (hu1 hr) rfl (pv 0) (rp_of re_int)) (rp_of re_int))
  (ss_cons (s_set (i := 3) sc__law_take.nd rfl (by first | exact Or.inl rfl | exact Or.inr rfl) (re_bin op_mod sn_mod (re_int1 (hg := rfl) (hm := B.b_int) (ha := (ra_v (re_ixN (hu1 hr) rfl (pv 0) (rp_of re_int)) ra_nil))) (rp_var 1 (pv 1))))
  (ss_cons (s_setIx (i := 0) (hu1 hr) (pv 0) re_int (re_bin op_fdivW sn_div (re_ixN (hu1 hr) rfl (pv 0) (rp_of re_int)) (rp_var 1 (pv 1))))
  (ss_one (s_retV 3 (pv 3)))))
  ss_nil)
  (ss_cons (s_setIx (i := 0) (hu1 hr) (pv 0) re_int (re_bin op_addP sn_add (re_ixN (hu1 hr) rfl (pv 0) (rp_of re_int)) (rp_of re_int)))
  (ss_cons (s_set (i := 4) sc__law_take.nd rfl (by first | exact Or.inl rfl | exact Or.inr rfl) (re_bin op_mod sn_mod (re_int1 (hg := rfl) (hm := B.b_int) (ha := (ra_v (re_bin op_addP sn_add (re_ixN (hu1 hr) rfl (pv 0) (rp_of re_int)) (rp_of (re_bin op_mulW sn_mul re_int (rp_of (re_ixN (hu1 hr) rfl (pv 0) (rp_of re_int)))))) ra_nil))) (rp_of re_int)))
  (ss_cons (s_set (i := 4) sc__law_take.nd rfl (by first | exact Or.inl rfl | exact Or.inr rfl) (re_bin op_mod sn_mod (re_int1 (hg := rfl) (hm := B.b_int) (ha := (ra_v (re_binN op_powW sn_pow (pv 4) (rp_of re_int)) ra_nil))) (rp_of re_int)))
  (ss_cons (s_setIx (i := 0) (hu1 hr) (pv 0) re_int (re_bin op_mod sn_mod (re_int1 (hg := rfl) (hm := B.b_int) (ha := (ra_v (re_bin op_addP sn_add (re_binN op_mulW sn_mul (pv 4) (rp_of re_int)) (rp_of (re_ixN (hu1 hr) rfl (pv 0) (rp_of re_int)))) ra_nil))) (rp_of re_int)))
  (ss_one (s_ret (re_bin op_mod sn_mod (re_int1 (hg := rfl) (hm := B.b_int) (ha := (ra_v (re_bin op_fdivW sn_div (re_ixN (hu1 hr) rfl (pv 0) (rp_of re_int)) (rp_of re_int)) ra_nil))) (rp_var 1 (pv 1)))))))))))
abbrev s__law_name : Stmt := top 47
abbrev n__law_name : List Str := ["_law_draw", "_law_taken", "_law_letters", "_law_signs", "_law_name_here", "_law_k", "_law_kept"]
theorem sc__law_name : FnScope n__law_name ["_law_draw", "_law_taken"] (defScope s__law_name) := ⟨rfl, rfl, rfl, by decide +kernel, rfl, by decide +kernel, by decide +kernel⟩
def q__law_name_1  : SM := (setM 2 (cst (.str "abcdefghijklmnopqrstuvwxyz")))
@[simp] theorem e__law_name_1  (ρ : Ev) : q__law_name_1  ρ = (setM 2 (cst (.str "abcdefghijklmnopqrstuvwxyz"))) ρ := (rfl)
def q__law_name_2  : SM := (setM 3 (binN pyAdd 2 (cst (.str "0123456789"))))
@[simp] theorem e__law_name_2  (ρ : Ev) : q__law_name_2  ρ = (setM 3 (binN pyAdd 2 (cst (.str "0123456789")))) ρ := (rfl)
def q__law_name_3  : SM := (setM 4 (binN pyIx 2 (callE m__law_take (argN 0 (argV (cst (.int 26)) argNil)))))
@[simp] theorem e__law_name_3  (ρ : Ev) : q__law_name_3  ρ = (setM 4 (binN pyIx 2 (callE m__law_take (argN 0 (argV (cst (.int 26)) argNil))))) ρ := (rfl)
def q__law_name_5  : SM := (setM 4 (binN pyAdd 4 (binN pyIx 3 (callE m__law_take (argN 0 (argV (cst (.int 36)) argNil))))))
@[simp] theorem e__law_name_5  (ρ : Ev) : q__law_name_5  ρ = (setM 4 (binN pyAdd 4 (binN pyIx 3 (callE m__law_take (argN 0 (argV (cst (.int 36)) argNil)))))) ρ := (rfl)
def q__law_name_4  : SM := (frM (itR1 (callE m__law_take (argN 0 (argV (cst (.int 8)) argNil)))) (tgN 5)
  q__law_name_5)
@[simp] theorem e__law_name_4  (ρ : Ev) : q__law_name_4  ρ = (frM (itR1 (callE m__law_take (argN 0 (argV (cst (.int 8)) argNil)))) (tgN 5)
  q__law_name_5) ρ := (rfl)
def q__law_name_6  : SM := (setO 6 (lstM (argV (cst (.str "and")) (argV (cst (.str "or")) (argV (cst (.str "not")) (argV (cst (.str "sure")) (argV (cst (.str "in")) (argV (cst (.str "is")) (argV (cst (.str "empty")) (argV (cst (.str "begins")) (argV (cst (.str "always")) (argV (cst (.str "never")) argNil))))))))))))
@[simp] theorem e__law_name_6  (ρ : Ev) : q__law_name_6  ρ = (setO 6 (lstM (argV (cst (.str "and")) (argV (cst (.str "or")) (argV (cst (.str "not")) (argV (cst (.str "sure")) (argV (cst (.str "in")) (argV (cst (.str "is")) (argV (cst (.str "empty")) (argV (cst (.str "begins")) (argV (cst (.str "always")) (argV (cst (.str "never")) argNil)))))))))))) ρ := (rfl)
def q__law_name_8  : SM := (setM 4 (slN 4 noP (someP (cst (.int 6)))))
@[simp] theorem e__law_name_8  (ρ : Ev) : q__law_name_8  ρ = (setM 4 (slN 4 noP (someP (cst (.int 6))))) ρ := (rfl)
def q__law_name_11  : SM := (retM (binN pyAdd 4 (callB bStr (argN 5 argNil))))
@[simp] theorem e__law_name_11  (ρ : Ev) : q__law_name_11  ρ = (retM (binN pyAdd 4 (callB bStr (argN 5 argNil)))) ρ := (rfl)
def q__law_name_10  : SM := (ifM (asB (bin pyNotIn (binN pyAdd 4 (callB bStr (argN 5 argNil))) (peek 1)))
  q__law_name_11
  skipM)
@[simp] theorem e__law_name_10  (ρ : Ev) : q__law_name_10  ρ = (ifM (asB (bin pyNotIn (binN pyAdd 4 (callB bStr (argN 5 argNil))) (peek 1)))
  q__law_name_11
  skipM) ρ := (rfl)
def q__law_name_9  : SM := (frM (itR1 (cst (.int 60))) (tgN 5)
  q__law_name_10)
@[simp] theorem e__law_name_9  (ρ : Ev) : q__law_name_9  ρ = (frM (itR1 (cst (.int 60))) (tgN 5)
  q__law_name_10) ρ := (rfl)
def q__law_name_7  : SM := (ifM (orM (asB (binN pyIn 4 (peek 6))) (asB (binN pyIn 4 (peek 1))))
  (seqM q__law_name_8
  q__law_name_9)
  skipM)
@[simp] theorem e__law_name_7  (ρ : Ev) : q__law_name_7  ρ = (ifM (orM (asB (binN pyIn 4 (peek 6))) (asB (binN pyIn 4 (peek 1))))
  (seqM q__law_name_8
  q__law_name_9)
  skipM) ρ := (rfl)
def q__law_name_12  : SM := (retV 4)
@[simp] theorem e__law_name_12  (ρ : Ev) : q__law_name_12  ρ = (retV 4) ρ := (rfl)
def m__law_name : FM := fnB 2 7
  (seqM q__law_name_1
  (seqM q__law_name_2
  (seqM q__law_name_3
  (seqM q__law_name_4
  (seqM q__law_name_6
  (seqM q__law_name_7
  q__law_name_12))))))
theorem em__law_name (as : List Slot) : m__law_name as = if as.length = 2 then fin 2 as ((seqM q__law_name_1
  (seqM q__law_name_2
  (seqM q__law_name_3
  (seqM q__law_name_4
  (seqM q__law_name_6
  (seqM q__law_name_7
  q__law_name_12)))))) (enter 7 as)) else .stuck := ev_fn _ _ _ as
theorem ok__law_name {P : Program} {w : World} {K : PySem.W.Frag} {mg : Str → Option Value} {base : Heap} (B : BN K mg) (C__law_take : FnAt P w K mg base (DW K mg) 1 "_law_take" ["_law_draw", "_law_many"] m__law_take) (d : DefAt K mg "_law_name" s__law_name ["_law_draw", "_law_taken"]) : FnAt P w K mg base (DW K mg) 2 "_law_name" ["_law_draw", "_law_taken"] m__law_name :=
  fn_at d sc__law_name rfl (by decide) fun cdv A outer s H E hr tk =>
  (ss_cons (s_set (i := 2) sc__law_name.nd rfl (by first | exact Or.inl rfl | exact Or.inr rfl) re_str)
  (ss_cons (s_set (i := 3) sc__law_name.nd rfl (by first | exact Or.inl rfl | exact Or.inr rfl) (re_binN op_addP sn_add (pv 2) (rp_of re_str)))
  (ss_cons (s_set (i := 4) sc__law_name.nd rfl (by first | exact Or.inl rfl | exact Or.inr rfl) (re_ixN (hu1 hr) rfl (pv 2) (rp_of (re_callA C__law_take (hr.mono (by omega)) tk (ra_n 0 (pv 0) (ra_v re_int ra_nil))))))
  (ss_cons (s_fr (passes_of rfl) rfl (ri_r1 rfl B.b_range (re_callA C__law_take (hr.mono (by omega)) tk (ra_n 0 (pv 0) (ra_v re_int ra_nil)))) (pg_name (i := 5) sc__law_name.nd rfl (by first | exact Or.inl rfl | exact Or.inr rfl)) (vs := [5]) (tgx_name (by decide))
  (ss_one (s_set (i := 4) sc__law_name.nd rfl (by first | exact Or.inl rfl | exact Or.inr rfl) (re_binN op_addP sn_add (pv 4) (rp_of (re_ixN (hu1 hr) rfl (pv 3) (rp_of (re_callA C__law_take (hr.mono (by omega)) tk (ra_n 0 (pv 0) (ra_v re_int ra_nil))))))))))
  (ss_cons (s_setO (i := 6) sc__law_name.nd rfl (by first | exact Or.inl rfl | exact Or.inr rfl) (rn_lst (ra_v re_str (ra_v re_str (ra_v re_str (ra_v re_str (ra_v re_str (ra_v re_str (ra_v re_str (ra_v re_str (ra_v re_str (ra_v re_str ra_nil))))))))))))
  (ss_cons (s_if (rb_w (rw_or (rb_cmpN rfl (op_inP (hu65 hr)) sn_in (pv 4) (rp_var 6 (pv 6))) (rw_or1 (rb_cmpN rfl (op_inP (hu65 hr)) sn_in (pv 4) (rp_var 1 (pv 1))))))
  (ss_cons (s_set (i := 4) sc__law_name.nd rfl (by first | exact Or.inl rfl | exact Or.inr rfl) (re_slN rfl (pv 4) ro_none (ro_some re_int)))
  (ss_one (s_fr (passes_of rfl) rfl (ri_r1 rfl B.b_range re_int) (pg_name (i := 5) sc__law_name.nd rfl (by first | exact Or.inl rfl | exact Or.inr rfl)) (vs := [5]) (tgx_name (by decide))
  (ss_one (s_if (rb_cmp rfl (op_notInP (hu65 hr)) sn_notIn (re_binN op_addP sn_add (pv 4) (rp_of (re_str1 (hg := rfl) (hm := B.b_str) (ha := (ra_n 5 (pv 5) ra_nil))))) (rp_var 1 (pv 1)))
  (ss_one (s_ret (re_binN op_addP sn_add (pv 4) (rp_of (re_str1 (hg := rfl) (hm := B.b_str) (ha := (ra_n 5 (pv 5) ra_nil)))))))
  ss_nil)))))
  ss_nil)
  (ss_one (s_retV 4 (pv 4)))))))))
abbrev s__law_is_column : Stmt := top 50
abbrev n__law_is_column : List Str := ["_law_thing", "_law_names", "_law_letters", "_law_char"]
theorem sc__law_is_column : FnScope n__law_is_column ["_law_thing", "_law_names"] (defScope s__law_is_column) := ⟨rfl, rfl, rfl, by decide +kernel, rfl, by decide +kernel, by decide +kernel⟩
def q__law_is_column_2  : SM := (retM (cst (.bl false)))
@[simp] theorem e__law_is_column_2  (ρ : Ev) : q__law_is_column_2  ρ = (retM (cst (.bl false))) ρ := (rfl)
def q__law_is_column_1  : SM := (ifM (andM (notM (truM (isM (peek 0) .list))) (notM (truM (isM (peek 0) .tuple))))
  q__law_is_column_2
  skipM)
@[simp] theorem e__law_is_column_1  (ρ : Ev) : q__law_is_column_1  ρ = (ifM (andM (notM (truM (isM (peek 0) .list))) (notM (truM (isM (peek 0) .tuple))))
  q__law_is_column_2
  skipM) ρ := (rfl)
def q__law_is_column_4  : SM := (retM (cst (.bl false)))
@[simp] theorem e__law_is_column_4  (ρ : Ev) : q__law_is_column_4  ρ = (retM (cst (.bl false))) ρ := (rfl)
def q__law_is_column_3  : SM := (ifM (orM (asB (bin pyNe (callB bLen (argN 0 argNil)) (cst (.int 3)))) (orM (notM (truM (isM (binN pyIx 0 (cst (.int 0))) .str))) (notM (truM (isM (binN pyIx 0 (cst (.int 1))) .str)))))
  q__law_is_column_4
  skipM)
@[simp] theorem e__law_is_column_3  (ρ : Ev) : q__law_is_column_3  ρ = (ifM (orM (asB (bin pyNe (callB bLen (argN 0 argNil)) (cst (.int 3)))) (orM (notM (truM (isM (binN pyIx 0 (cst (.int 0))) .str))) (notM (truM (isM (binN pyIx 0 (cst (.int 1))) .str)))))
  q__law_is_column_4
  skipM) ρ := (rfl)
def q__law_is_column_5  : SM := (setM 2 (cst (.str "abcdefghijklmnopqrstuvwxyz")))
@[simp] theorem e__law_is_column_5  (ρ : Ev) : q__law_is_column_5  ρ = (setM 2 (cst (.str "abcdefghijklmnopqrstuvwxyz"))) ρ := (rfl)
def q__law_is_column_7  : SM := (retM (cst (.bl false)))
@[simp] theorem e__law_is_column_7  (ρ : Ev) : q__law_is_column_7  ρ = (retM (cst (.bl false))) ρ := (rfl)
def q__law_is_column_6  : SM := (ifM (orM (asB (bin pyLt (callB bLen (argV (binN pyIx 0 (cst (.int 0))) argNil)) (cst (.int 1)))) (orM (asB (bin pyGt (callB bLen (argV (binN pyIx 0 (cst (.int 0))) argNil)) (cst (.int 8)))) (orM (asB (bin pyIn (binN pyIx 0 (cst (.int 0))) (peek 1))) (orM (asB (bin pyEq (binN pyIx 0 (cst (.int 0))) (cst (.str "in")))) (asB (bin pyNotIn (bin pyIx (binN pyIx 0 (cst (.int 0))) (cst (.int 0))) (peek 2)))))))
  q__law_is_column_7
  skipM)
@[simp] theorem e__law_is_column_6  (ρ : Ev) : q__law_is_column_6  ρ = (ifM (orM (asB (bin pyLt (callB bLen (argV (binN pyIx 0 (cst (.int 0))) argNil)) (cst (.int 1)))) (orM (asB (bin pyGt (callB bLen (argV (binN pyIx 0 (cst (.int 0))) argNil)) (cst (.int 8)))) (orM (asB (bin pyIn (binN pyIx 0 (cst (.int 0))) (peek 1))) (orM (asB (bin pyEq (binN pyIx 0 (cst (.int 0))) (cst (.str "in")))) (asB (bin pyNotIn (bin pyIx (binN pyIx 0 (cst (.int 0))) (cst (.int 0))) (peek 2)))))))
  q__law_is_column_7
  skipM) ρ := (rfl)
def q__law_is_column_9  : SM := (retM (cst (.bl false)))
@[simp] theorem e__law_is_column_9  (ρ : Ev) : q__law_is_column_9  ρ = (retM (cst (.bl false))) ρ := (rfl)
def q__law_is_column_8  : SM := (ifM (asB (bin pyGt (callB bLen (argV (frz (cmpM [3] (itV (binN pyIx 0 (cst (.int 0)))) (tgN 3) (asB (binN pyNotIn 3 (binN pyAdd 2 (cst (.str "0123456789"))))) (getv 3))) argNil)) (cst (.int 0))))
  q__law_is_column_9
  skipM)
@[simp] theorem e__law_is_column_8  (ρ : Ev) : q__law_is_column_8  ρ = (ifM (asB (bin pyGt (callB bLen (argV (frz (cmpM [3] (itV (binN pyIx 0 (cst (.int 0)))) (tgN 3) (asB (binN pyNotIn 3 (binN pyAdd 2 (cst (.str "0123456789"))))) (getv 3))) argNil)) (cst (.int 0))))
  q__law_is_column_9
  skipM) ρ := (rfl)
def q__law_is_column_10  : SM := (retM (andV' (orV' (bin pyEq (binN pyIx 0 (cst (.int 1))) (cst (.str "number"))) (bin pyEq (binN pyIx 0 (cst (.int 1))) (cst (.str "text")))) (isM (binN pyIx 0 (cst (.int 2))) .bool)))
@[simp] theorem e__law_is_column_10  (ρ : Ev) : q__law_is_column_10  ρ = (retM (andV' (orV' (bin pyEq (binN pyIx 0 (cst (.int 1))) (cst (.str "number"))) (bin pyEq (binN pyIx 0 (cst (.int 1))) (cst (.str "text")))) (isM (binN pyIx 0 (cst (.int 2))) .bool))) ρ := (rfl)
def m__law_is_column : FM := fnB 2 4
  (seqM q__law_is_column_1
  (seqM q__law_is_column_3
  (seqM q__law_is_column_5
  (seqM q__law_is_column_6
  (seqM q__law_is_column_8
  q__law_is_column_10)))))
theorem em__law_is_column (as : List Slot) : m__law_is_column as = if as.length = 2 then fin 2 as ((seqM q__law_is_column_1
  (seqM q__law_is_column_3
  (seqM q__law_is_column_5
  (seqM q__law_is_column_6
  (seqM q__law_is_column_8
  q__law_is_column_10))))) (enter 4 as)) else .stuck := ev_fn _ _ _ as
theorem ok__law_is_column {P : Program} {w : World} {K : PySem.W.Frag} {mg : Str → Option Value} {base : Heap} (B : BN K mg) (d : DefAt K mg "_law_is_column" s__law_is_column ["_law_thing", "_law_names"]) : FnAt P w K mg base (DW K mg) 1 "_law_is_column" ["_law_thing", "_law_names"] m__law_is_column :=
  fn_at d sc__law_is_column rfl (by decide) fun cdv A outer s H E hr tk =>
  (ss_cons (s_if (rb_w (rw_and (rb_not (rb_truth (rp_of (re_isi B.hT .list rfl (rp_var 0 (pv 0)) rfl B.b_isinstance rfl B.b_list PyProof.Rows.boot_list)) rfl)) (rw_and1 (rb_not (rb_truth (rp_of (re_isi B.hT .tuple rfl (rp_var 0 (pv 0)) rfl B.b_isinstance rfl B.b_tuple PyProof.Rows.boot_tuple)) rfl)))))
  (ss_one (s_ret re_bl))
  ss_nil)
  (ss_cons (s_if (rb_w (rw_or (rb_cmp (nomark _) (op_neP hr.units) sn_ne (re_len rfl (hg := rfl) (hm := B.b_len) (ha := (ra_n 0 (pv 0) ra_nil))) (rp_of re_int)) (rw_or (rb_not (rb_truth (rp_of (re_isi B.hT .str rfl (rp_of (re_ixN (hu1 hr) rfl (pv 0) (rp_of re_int))) rfl B.b_isinstance rfl B.b_str PyProof.Rows.boot_str)) rfl)) (rw_or1 (rb_not (rb_truth (rp_of (re_isi B.hT .str rfl (rp_of (re_ixN (hu1 hr) rfl (pv 0) (rp_of re_int))) rfl B.b_isinstance rfl B.b_str PyProof.Rows.boot_str)) rfl))))))
  (ss_one (s_ret re_bl))
  ss_nil)
  (ss_cons (s_set (i := 2) sc__law_is_column.nd rfl (by first | exact Or.inl rfl | exact Or.inr rfl) re_str)
  (ss_cons (s_if (rb_w (rw_or (rb_cmp (nomark _) op_ltP sn_lt (re_len rfl (hg := rfl) (hm := B.b_len) (ha := (ra_v (re_ixN (hu1 hr) rfl (pv 0) (rp_of re_int)) ra_nil))) (rp_of re_int)) (rw_or (rb_cmp (nomark _) op_gtP sn_gt (re_len rfl (hg := rfl) (hm := B.b_len) (ha := (ra_v (re_ixN (hu1 hr) rfl (pv 0) (rp_of re_int)) ra_nil))) (rp_of re_int)) (rw_or (rb_cmp rfl (op_inP (hu65 hr)) sn_in (re_ixN (hu1 hr) rfl (pv 0) (rp_of re_int)) (rp_var 1 (pv 1))) (rw_or (rb_cmp (nomark _) (op_eqP hr.units) sn_eq (re_ixN (hu1 hr) rfl (pv 0) (rp_of re_int)) (rp_of re_str)) (rw_or1 (rb_cmp rfl (op_notInP (hu65 hr)) sn_notIn (re_ix (hu1 hr) rfl (re_ixN (hu1 hr) rfl (pv 0) (rp_of re_int)) (rp_of re_int)) (rp_var 2 (pv 2)))))))))
  (ss_one (s_ret re_bl))
  ss_nil)
  (ss_cons (s_if (rb_cmp (nomark _) op_gtP sn_gt (re_len rfl (hg := rfl) (hm := B.b_len) (ha := (ra_v (re_frz (rn_lc (own := [("_law_char", 3)]) (tg := (tgN 3)) (hc := rfl) (hN := sc__law_is_column.nd) (ok := blkOk_by (N := n__law_is_column) (sc := defScope s__law_is_column) (by decide +kernel)) (hi := (ri_v rfl (re_ixN (hu1 hr) rfl (pv 0) (rp_of re_int)))) (hg := fun _ _ _ _ _ => (pg_name (i := 3) sc__law_is_column.nd rfl (by first | exact Or.inl rfl | exact Or.inr rfl))) (ht := fun _ _ _ _ _ => (pts_t (rb_cmpN rfl (op_notInP (hu65 hr)) sn_notIn (pv 3) (rp_of (re_binN op_addP sn_add (pv 2) (rp_of re_str)))))) (he := fun _ _ _ _ _ => (re_var 3 (pv 3))) (tk := (tgx_name (by decide))))) ra_nil))) (rp_of re_int))
  (ss_one (s_ret re_bl))
  ss_nil)
  (ss_one (s_ret (re_and (re_or (re_cmp (nomark _) (op_eqP hr.units) sn_eq (re_ixN (hu1 hr) rfl (pv 0) (rp_of re_int)) (rp_of re_str)) (re_one (re_cmp (nomark _) (op_eqP hr.units) sn_eq (re_ixN (hu1 hr) rfl (pv 0) (rp_of re_int)) (rp_of re_str))) rfl) (re_one (re_isi B.hT .bool rfl (rp_of (re_ixN (hu1 hr) rfl (pv 0) (rp_of re_int))) rfl B.b_isinstance rfl B.b_bool PyProof.Rows.boot_bool)) rfl))))))))
abbrev s__law_spoiled : Stmt := top 49
abbrev n__law_spoiled : List Str := ["_law_draw", "_law_column", "_law_names", "_law_choice"]
theorem sc__law_spoiled : FnScope n__law_spoiled ["_law_draw", "_law_column", "_law_names"] (defScope s__law_spoiled) := ⟨rfl, rfl, rfl, by decide +kernel, rfl, by decide +kernel, by decide +kernel⟩
def q__law_spoiled_1  : SM := (setM 3 (callE m__law_take (argN 0 (argV (cst (.int 8)) argNil))))
@[simp] theorem e__law_spoiled_1  (ρ : Ev) : q__law_spoiled_1  ρ = (setM 3 (callE m__law_take (argN 0 (argV (cst (.int 8)) argNil)))) ρ := (rfl)
def q__law_spoiled_3  : SM := (retM (bin pyIx (frz (lstM (argV (cst .non) (argV (cst (.int 5)) (argV (cst (.str "ab")) (argV (frz dct0) (argV (cst (.bl true)) argNil))))))) (callE m__law_take (argN 0 (argV (cst (.int 5)) argNil)))))
@[simp] theorem e__law_spoiled_3  (ρ : Ev) : q__law_spoiled_3  ρ = (retM (bin pyIx (frz (lstM (argV (cst .non) (argV (cst (.int 5)) (argV (cst (.str "ab")) (argV (frz dct0) (argV (cst (.bl true)) argNil))))))) (callE m__law_take (argN 0 (argV (cst (.int 5)) argNil))))) ρ := (rfl)
def q__law_spoiled_2  : SM := (ifM (asB (binN pyEq 3 (cst (.int 0))))
  q__law_spoiled_3
  skipM)
@[simp] theorem e__law_spoiled_2  (ρ : Ev) : q__law_spoiled_2  ρ = (ifM (asB (binN pyEq 3 (cst (.int 0))))
  q__law_spoiled_3
  skipM) ρ := (rfl)
def q__law_spoiled_5  : SM := (retM (tupM (argV (binN pyIx 1 (cst (.int 0))) (argV (binN pyIx 1 (cst (.int 1))) argNil))))
@[simp] theorem e__law_spoiled_5  (ρ : Ev) : q__law_spoiled_5  ρ = (retM (tupM (argV (binN pyIx 1 (cst (.int 0))) (argV (binN pyIx 1 (cst (.int 1))) argNil)))) ρ := (rfl)
def q__law_spoiled_4  : SM := (ifM (asB (binN pyEq 3 (cst (.int 1))))
  q__law_spoiled_5
  skipM)
@[simp] theorem e__law_spoiled_4  (ρ : Ev) : q__law_spoiled_4  ρ = (ifM (asB (binN pyEq 3 (cst (.int 1))))
  q__law_spoiled_5
  skipM) ρ := (rfl)
def q__law_spoiled_7  : SM := (retO (lstM (argV (binN pyIx 1 (cst (.int 0))) (argV (binN pyIx 1 (cst (.int 1))) (argV (binN pyIx 1 (cst (.int 2))) (argV (cst (.bl false)) argNil))))))
@[simp] theorem e__law_spoiled_7  (ρ : Ev) : q__law_spoiled_7  ρ = (retO (lstM (argV (binN pyIx 1 (cst (.int 0))) (argV (binN pyIx 1 (cst (.int 1))) (argV (binN pyIx 1 (cst (.int 2))) (argV (cst (.bl false)) argNil)))))) ρ := (rfl)
def q__law_spoiled_6  : SM := (ifM (asB (binN pyEq 3 (cst (.int 2))))
  q__law_spoiled_7
  skipM)
@[simp] theorem e__law_spoiled_6  (ρ : Ev) : q__law_spoiled_6  ρ = (ifM (asB (binN pyEq 3 (cst (.int 2))))
  q__law_spoiled_7
  skipM) ρ := (rfl)
def q__law_spoiled_9  : SM := (retM (tupM (argV (bin pyIx (frz (lstM (argV (cst (.str "")) (argV (cst (.str "A")) (argV (cst (.str "in")) (argV (cst .non) (argV (cst (.int 7)) (argV (frz (lstM argNil)) (argV (cst (.str "abcdefghi")) (argV (cst (.str "a-b")) argNil)))))))))) (callE m__law_take (argN 0 (argV (cst (.int 8)) argNil)))) (argV (binN pyIx 1 (cst (.int 1))) (argV (binN pyIx 1 (cst (.int 2))) argNil)))))
@[simp] theorem e__law_spoiled_9  (ρ : Ev) : q__law_spoiled_9  ρ = (retM (tupM (argV (bin pyIx (frz (lstM (argV (cst (.str "")) (argV (cst (.str "A")) (argV (cst (.str "in")) (argV (cst .non) (argV (cst (.int 7)) (argV (frz (lstM argNil)) (argV (cst (.str "abcdefghi")) (argV (cst (.str "a-b")) argNil)))))))))) (callE m__law_take (argN 0 (argV (cst (.int 8)) argNil)))) (argV (binN pyIx 1 (cst (.int 1))) (argV (binN pyIx 1 (cst (.int 2))) argNil))))) ρ := (rfl)
def q__law_spoiled_8  : SM := (ifM (asB (binN pyEq 3 (cst (.int 3))))
  q__law_spoiled_9
  skipM)
@[simp] theorem e__law_spoiled_8  (ρ : Ev) : q__law_spoiled_8  ρ = (ifM (asB (binN pyEq 3 (cst (.int 3))))
  q__law_spoiled_9
  skipM) ρ := (rfl)
def q__law_spoiled_11  : SM := (retM (tupM (argV (binN pyIx 2 (callE m__law_take (argN 0 (argV (callB bLen (argN 2 argNil)) argNil)))) (argV (binN pyIx 1 (cst (.int 1))) (argV (binN pyIx 1 (cst (.int 2))) argNil)))))
@[simp] theorem e__law_spoiled_11  (ρ : Ev) : q__law_spoiled_11  ρ = (retM (tupM (argV (binN pyIx 2 (callE m__law_take (argN 0 (argV (callB bLen (argN 2 argNil)) argNil)))) (argV (binN pyIx 1 (cst (.int 1))) (argV (binN pyIx 1 (cst (.int 2))) argNil))))) ρ := (rfl)
def q__law_spoiled_10  : SM := (ifM (andM (asB (binN pyEq 3 (cst (.int 4)))) (asB (bin pyGt (callB bLen (argN 2 argNil)) (cst (.int 0)))))
  q__law_spoiled_11
  skipM)
@[simp] theorem e__law_spoiled_10  (ρ : Ev) : q__law_spoiled_10  ρ = (ifM (andM (asB (binN pyEq 3 (cst (.int 4)))) (asB (bin pyGt (callB bLen (argN 2 argNil)) (cst (.int 0)))))
  q__law_spoiled_11
  skipM) ρ := (rfl)
def q__law_spoiled_13  : SM := (retO (lstM (argV (binN pyIx 1 (cst (.int 0))) (argV (bin pyIx (frz (lstM (argV (cst (.str "Number")) (argV (cst (.str "")) (argV (cst .non) (argV (frz (lstM argNil)) (argV (cst (.str "texts")) (argV (cst (.int 0)) argNil)))))))) (callE m__law_take (argN 0 (argV (cst (.int 6)) argNil)))) (argV (binN pyIx 1 (cst (.int 2))) argNil)))))
@[simp] theorem e__law_spoiled_13  (ρ : Ev) : q__law_spoiled_13  ρ = (retO (lstM (argV (binN pyIx 1 (cst (.int 0))) (argV (bin pyIx (frz (lstM (argV (cst (.str "Number")) (argV (cst (.str "")) (argV (cst .non) (argV (frz (lstM argNil)) (argV (cst (.str "texts")) (argV (cst (.int 0)) argNil)))))))) (callE m__law_take (argN 0 (argV (cst (.int 6)) argNil)))) (argV (binN pyIx 1 (cst (.int 2))) argNil))))) ρ := (rfl)
def q__law_spoiled_12  : SM := (ifM (asB (binN pyEq 3 (cst (.int 5))))
  q__law_spoiled_13
  skipM)
@[simp] theorem e__law_spoiled_12  (ρ : Ev) : q__law_spoiled_12  ρ = (ifM (asB (binN pyEq 3 (cst (.int 5))))
  q__law_spoiled_13
  skipM) ρ := (rfl)
def q__law_spoiled_14  : SM := (retM (tupM (argV (binN pyIx 1 (cst (.int 0))) (argV (binN pyIx 1 (cst (.int 1))) (argV (bin pyIx (frz (lstM (argV (cst (.int 1)) (argV (cst (.int 0)) (argV (cst .non) (argV (cst (.str "True")) (argV (frz (lstM argNil)) argNil))))))) (callE m__law_take (argN 0 (argV (cst (.int 5)) argNil)))) argNil)))))
@[simp] theorem e__law_spoiled_14  (ρ : Ev) : q__law_spoiled_14  ρ = (retM (tupM (argV (binN pyIx 1 (cst (.int 0))) (argV (binN pyIx 1 (cst (.int 1))) (argV (bin pyIx (frz (lstM (argV (cst (.int 1)) (argV (cst (.int 0)) (argV (cst .non) (argV (cst (.str "True")) (argV (frz (lstM argNil)) argNil))))))) (callE m__law_take (argN 0 (argV (cst (.int 5)) argNil)))) argNil))))) ρ := (rfl)
def m__law_spoiled : FM := fnB 3 4
  (seqM q__law_spoiled_1
  (seqM q__law_spoiled_2
  (seqM q__law_spoiled_4
  (seqM q__law_spoiled_6
  (seqM q__law_spoiled_8
  (seqM q__law_spoiled_10
  (seqM q__law_spoiled_12
  q__law_spoiled_14)))))))
theorem em__law_spoiled (as : List Slot) : m__law_spoiled as = if as.length = 3 then fin 3 as ((seqM q__law_spoiled_1
  (seqM q__law_spoiled_2
  (seqM q__law_spoiled_4
  (seqM q__law_spoiled_6
  (seqM q__law_spoiled_8
  (seqM q__law_spoiled_10
  (seqM q__law_spoiled_12
  q__law_spoiled_14))))))) (enter 4 as)) else .stuck := ev_fn _ _ _ as
theorem ok__law_spoiled {P : Program} {w : World} {K : PySem.W.Frag} {mg : Str → Option Value} {base : Heap} (B : BN K mg) (C__law_take : FnAt P w K mg base (DW K mg) 1 "_law_take" ["_law_draw", "_law_many"] m__law_take) (d : DefAt K mg "_law_spoiled" s__law_spoiled ["_law_draw", "_law_column", "_law_names"]) : FnAt P w K mg base (DW K mg) 2 "_law_spoiled" ["_law_draw", "_law_column", "_law_names"] m__law_spoiled :=
  fn_at d sc__law_spoiled rfl (by decide) fun cdv A outer s H E hr tk =>
  (ss_cons (s_set (i := 3) sc__law_spoiled.nd rfl (by first | exact Or.inl rfl | exact Or.inr rfl) (re_callA C__law_take (hr.mono (by omega)) tk (ra_n 0 (pv 0) (ra_v re_int ra_nil))))
  (ss_cons (s_if (rb_cmpN (nomark _) (op_eqP hr.units) sn_eq (pv 3) (rp_of re_int))
  (ss_one (s_ret (re_ix (hu1 hr) rfl (re_frz (rn_lst (ra_v re_non (ra_v re_int (ra_v re_str (ra_v (re_frz rn_dct0) (ra_v re_bl ra_nil))))))) (rp_of (re_callA C__law_take (hr.mono (by omega)) tk (ra_n 0 (pv 0) (ra_v re_int ra_nil)))))))
  ss_nil)
  (ss_cons (s_if (rb_cmpN (nomark _) (op_eqP hr.units) sn_eq (pv 3) (rp_of re_int))
  (ss_one (s_ret (re_tup (ra_v (re_ixN (hu1 hr) rfl (pv 1) (rp_of re_int)) (ra_v (re_ixN (hu1 hr) rfl (pv 1) (rp_of re_int)) ra_nil)))))
  ss_nil)
  (ss_cons (s_if (rb_cmpN (nomark _) (op_eqP hr.units) sn_eq (pv 3) (rp_of re_int))
  (ss_one (s_retO (rn_lst (ra_v (re_ixN (hu1 hr) rfl (pv 1) (rp_of re_int)) (ra_v (re_ixN (hu1 hr) rfl (pv 1) (rp_of re_int)) (ra_v (re_ixN (hu1 hr) rfl (pv 1) (rp_of re_int)) (ra_v re_bl ra_nil)))))))
  ss_nil)
  (ss_cons (s_if (rb_cmpN (nomark _) (op_eqP hr.units) sn_eq (pv 3) (rp_of re_int))
  (ss_one (s_ret (re_tup (ra_v (re_ix (hu1 hr) rfl (re_frz (rn_lst (ra_v re_str (ra_v re_str (ra_v re_str (ra_v re_non (ra_v re_int (ra_v (re_frz (rn_lst ra_nil)) (ra_v re_str (ra_v re_str ra_nil)))))))))) (rp_of (re_callA C__law_take (hr.mono (by omega)) tk (ra_n 0 (pv 0) (ra_v re_int ra_nil))))) (ra_v (re_ixN (hu1 hr) rfl (pv 1) (rp_of re_int)) (ra_v (re_ixN (hu1 hr) rfl (pv 1) (rp_of re_int)) ra_nil))))))
  ss_nil)
  (ss_cons (s_if (rb_w (rw_and (rb_cmpN (nomark _) (op_eqP hr.units) sn_eq (pv 3) (rp_of re_int)) (rw_and1 (rb_cmp (nomark _) op_gtP sn_gt (re_len rfl (hg := rfl) (hm := B.b_len) (ha := (ra_n 2 (pv 2) ra_nil))) (rp_of re_int)))))
  (ss_one (s_ret (re_tup (ra_v (re_ixN (hu1 hr) rfl (pv 2) (rp_of (re_callA C__law_take (hr.mono (by omega)) tk (ra_n 0 (pv 0) (ra_v (re_len rfl (hg := rfl) (hm := B.b_len) (ha := (ra_n 2 (pv 2) ra_nil))) ra_nil))))) (ra_v (re_ixN (hu1 hr) rfl (pv 1) (rp_of re_int)) (ra_v (re_ixN (hu1 hr) rfl (pv 1) (rp_of re_int)) ra_nil))))))
  ss_nil)
  (ss_cons (s_if (rb_cmpN (nomark _) (op_eqP hr.units) sn_eq (pv 3) (rp_of re_int))
  (ss_one (s_retO (rn_lst (ra_v (re_ixN (hu1 hr) rfl (pv 1) (rp_of re_int)) (ra_v (re_ix (hu1 hr) rfl (re_frz (rn_lst (ra_v re_str (ra_v re_str (ra_v re_non (ra_v (re_frz (rn_lst ra_nil)) (ra_v re_str (ra_v re_int ra_nil)))))))) (rp_of (re_callA C__law_take (hr.mono (by omega)) tk (ra_n 0 (pv 0) (ra_v re_int ra_nil))))) (ra_v (re_ixN (hu1 hr) rfl (pv 1) (rp_of re_int)) ra_nil))))))
  ss_nil)
  (ss_one (s_ret (re_tup (ra_v (re_ixN (hu1 hr) rfl (pv 1) (rp_of re_int)) (ra_v (re_ixN (hu1 hr) rfl (pv 1) (rp_of re_int)) (ra_v (re_ix (hu1 hr) rfl (re_frz (rn_lst (ra_v re_int (ra_v re_int (ra_v re_non (ra_v re_str (ra_v (re_frz (rn_lst ra_nil)) ra_nil))))))) (rp_of (re_callA C__law_take (hr.mono (by omega)) tk (ra_n 0 (pv 0) (ra_v re_int ra_nil))))) ra_nil)))))))))))))
abbrev s__law_due : Stmt := top 51
abbrev n__law_due : List Str := ["_law_columns", "_law_names", "_law_at"]
theorem sc__law_due : FnScope n__law_due ["_law_columns"] (defScope s__law_due) := ⟨rfl, rfl, rfl, by decide +kernel, rfl, by decide +kernel, by decide +kernel⟩
def q__law_due_2  : SM := (retM (un pyNeg (cst (.int 1))))
@[simp] theorem e__law_due_2  (ρ : Ev) : q__law_due_2  ρ = (retM (un pyNeg (cst (.int 1)))) ρ := (rfl)
def q__law_due_1  : SM := (ifM (orM (asB (bin pyLt (callB bLen (argN 0 argNil)) (cst (.int 1)))) (asB (bin pyGt (callB bLen (argN 0 argNil)) (cst (.int 12)))))
  q__law_due_2
  skipM)
@[simp] theorem e__law_due_1  (ρ : Ev) : q__law_due_1  ρ = (ifM (orM (asB (bin pyLt (callB bLen (argN 0 argNil)) (cst (.int 1)))) (asB (bin pyGt (callB bLen (argN 0 argNil)) (cst (.int 12)))))
  q__law_due_2
  skipM) ρ := (rfl)
def q__law_due_3  : SM := (setO 1 (lstM argNil))
@[simp] theorem e__law_due_3  (ρ : Ev) : q__law_due_3  ρ = (setO 1 (lstM argNil)) ρ := (rfl)
def q__law_due_6  : SM := (retV 2)
@[simp] theorem e__law_due_6  (ρ : Ev) : q__law_due_6  ρ = (retV 2) ρ := (rfl)
def q__law_due_5  : SM := (ifM (notM (truM (callE m__law_is_column (argV (binN pyIx 0 (peek 2)) (argN 1 argNil)))))
  q__law_due_6
  skipM)
@[simp] theorem e__law_due_5  (ρ : Ev) : q__law_due_5  ρ = (ifM (notM (truM (callE m__law_is_column (argV (binN pyIx 0 (peek 2)) (argN 1 argNil)))))
  q__law_due_6
  skipM) ρ := (rfl)
def q__law_due_7  : SM := (exprM (methM lAppend 1 (argV (bin pyIx (binN pyIx 0 (peek 2)) (cst (.int 0))) argNil)))
@[simp] theorem e__law_due_7  (ρ : Ev) : q__law_due_7  ρ = (exprM (methM lAppend 1 (argV (bin pyIx (binN pyIx 0 (peek 2)) (cst (.int 0))) argNil))) ρ := (rfl)
def q__law_due_4  : SM := (frM (itR1 (callB bLen (argN 0 argNil))) (tgN 2)
  (seqM q__law_due_5
  q__law_due_7))
@[simp] theorem e__law_due_4  (ρ : Ev) : q__law_due_4  ρ = (frM (itR1 (callB bLen (argN 0 argNil))) (tgN 2)
  (seqM q__law_due_5
  q__law_due_7)) ρ := (rfl)
def q__law_due_8  : SM := (retM (cst .non))
@[simp] theorem e__law_due_8  (ρ : Ev) : q__law_due_8  ρ = (retM (cst .non)) ρ := (rfl)
def m__law_due : FM := fnB 1 3
  (seqM q__law_due_1
  (seqM q__law_due_3
  (seqM q__law_due_4
  q__law_due_8)))
theorem em__law_due (as : List Slot) : m__law_due as = if as.length = 1 then fin 1 as ((seqM q__law_due_1
  (seqM q__law_due_3
  (seqM q__law_due_4
  q__law_due_8))) (enter 3 as)) else .stuck := ev_fn _ _ _ as
theorem ok__law_due {P : Program} {w : World} {K : PySem.W.Frag} {mg : Str → Option Value} {base : Heap} (B : BN K mg) (C__law_is_column : FnAt P w K mg base (DW K mg) 1 "_law_is_column" ["_law_thing", "_law_names"] m__law_is_column) (d : DefAt K mg "_law_due" s__law_due ["_law_columns"]) : FnAt P w K mg base (DW K mg) 2 "_law_due" ["_law_columns"] m__law_due :=
  fn_at d sc__law_due rfl (by decide) fun cdv A outer s H E hr tk =>
  (ss_cons (s_if (rb_w (rw_or (rb_cmp (nomark _) op_ltP sn_lt (re_len rfl (hg := rfl) (hm := B.b_len) (ha := (ra_n 0 (pv 0) ra_nil))) (rp_of re_int)) (rw_or1 (rb_cmp (nomark _) op_gtP sn_gt (re_len rfl (hg := rfl) (hm := B.b_len) (ha := (ra_n 0 (pv 0) ra_nil))) (rp_of re_int)))))
  (ss_one (s_ret (re_neg re_int)))
  ss_nil)
  (ss_cons (s_setO (i := 1) sc__law_due.nd rfl (by first | exact Or.inl rfl | exact Or.inr rfl) (rn_lst ra_nil))
  (ss_cons (s_fr (passes_of rfl) rfl (ri_r1 rfl B.b_range (re_len rfl (hg := rfl) (hm := B.b_len) (ha := (ra_n 0 (pv 0) ra_nil)))) (pg_name (i := 2) sc__law_due.nd rfl (by first | exact Or.inl rfl | exact Or.inr rfl)) (vs := [2]) (tgx_name (by decide))
  (ss_cons (s_if (rb_not (rb_truth (rp_of (re_callA C__law_is_column (hr.mono (by omega)) tk (ra_v (re_ixN (hu1 hr) rfl (pv 0) (rp_var 2 (pv 2))) (ra_n 1 (pv 1) ra_nil)))) rfl))
  (ss_one (s_retV 2 (pv 2)))
  ss_nil)
  (ss_one (s_expr (re_lm PySem.F.slot_list_append PySem.F.type_list_append mt_append sn_append rfl (pv 1) (ra_v (re_ix (hu1 hr) rfl (re_ixN (hu1 hr) rfl (pv 0) (rp_var 2 (pv 2))) (rp_of re_int)) ra_nil))))))
  (ss_one (s_ret re_non)))))
abbrev s_is_sequence : Stmt := top 13
abbrev n_is_sequence : List Str := ["thing"]
theorem sc_is_sequence : FnScope n_is_sequence ["thing"] (defScope s_is_sequence) := ⟨rfl, rfl, rfl, by decide +kernel, rfl, by decide +kernel, by decide +kernel⟩
def q_is_sequence_1  : SM := (retM (isTM (peek 0) [.list, .tuple]))
@[simp] theorem e_is_sequence_1  (ρ : Ev) : q_is_sequence_1  ρ = (retM (isTM (peek 0) [.list, .tuple])) ρ := (rfl)
def m_is_sequence : FM := fnB 1 1
  q_is_sequence_1
theorem em_is_sequence (as : List Slot) : m_is_sequence as = if as.length = 1 then fin 1 as (q_is_sequence_1 (enter 1 as)) else .stuck := ev_fn _ _ _ as
theorem ok_is_sequence {P : Program} {w : World} {K : PySem.W.Frag} {mg : Str → Option Value} {base : Heap} (B : BN K mg) (d : DefAt K mg "is_sequence" s_is_sequence ["thing"]) : FnAt P w K mg base (DW K mg) 1 "is_sequence" ["thing"] m_is_sequence :=
  fn_at d sc_is_sequence rfl (by decide) fun cdv A outer s H E hr tk =>
  (ss_one (s_ret (re_isT2 B.hT .list .tuple rfl (rp_var 0 (pv 0)) rfl B.b_isinstance rfl B.b_list rfl B.b_tuple PyProof.Rows.boot_list PyProof.Rows.boot_tuple)))
abbrev s_BadShape____init__ : Stmt := inCls (top 3) 0
abbrev n_BadShape____init__ : List Str := ["self", "why", "at"]
theorem sc_BadShape____init__ : FnScope n_BadShape____init__ ["self", "why", "at"] (defScope s_BadShape____init__) := ⟨rfl, rfl, rfl, by decide +kernel, rfl, by decide +kernel, by decide +kernel⟩
theorem ok_BadShape____init__ {P : Program} {w : World} {K : PySem.W.Frag} {mg : Str → Option Value} {base : Heap} (B : BN K mg) (d : DefXc K mg (DW K mg) 21 "BadShape" "BadShape.__init__" s_BadShape____init__ ["self", "why", "at"] ["why", "at"]) : XcAt P w K mg base (DW K mg) 1 21 "BadShape" ["why", "at"] :=
  xc_2 d sc_BadShape____init__ fun cdv A outer s H E => (pss_cons (ps_xt (pv 0) (pv 1)) (pss_one (ps_xt (pv 0) (pv 2))))
abbrev s_is_name : Stmt := top 15
abbrev n_is_name : List Str := ["thing", "char"]
theorem sc_is_name : FnScope n_is_name ["thing"] (defScope s_is_name) := ⟨rfl, rfl, rfl, by decide +kernel, rfl, by decide +kernel, by decide +kernel⟩
def q_is_name_2  : SM := (retM (cst (.bl false)))
@[simp] theorem e_is_name_2  (ρ : Ev) : q_is_name_2  ρ = (retM (cst (.bl false))) ρ := (rfl)
def q_is_name_1  : SM := (ifM (orM (notM (truM (isM (peek 0) .str))) (notM (asB (chn pyLe pyLe (cst (.int 1)) (callB bLen (argN 0 argNil)) (cst (.int 8))))))
  q_is_name_2
  skipM)
@[simp] theorem e_is_name_1  (ρ : Ev) : q_is_name_1  ρ = (ifM (orM (notM (truM (isM (peek 0) .str))) (notM (asB (chn pyLe pyLe (cst (.int 1)) (callB bLen (argN 0 argNil)) (cst (.int 8))))))
  q_is_name_2
  skipM) ρ := (rfl)
def q_is_name_4  : SM := (retM (cst (.bl false)))
@[simp] theorem e_is_name_4  (ρ : Ev) : q_is_name_4  ρ = (retM (cst (.bl false))) ρ := (rfl)
def q_is_name_3  : SM := (ifM (orM (asB (bin pyNotIn (binN pyIx 0 (cst (.int 0))) (cst (.str c_LETTERS)))) (asB (binN pyIn 0 (cst (.tup c_KEPT_WORDS)))))
  q_is_name_4
  skipM)
@[simp] theorem e_is_name_3  (ρ : Ev) : q_is_name_3  ρ = (ifM (orM (asB (bin pyNotIn (binN pyIx 0 (cst (.int 0))) (cst (.str c_LETTERS)))) (asB (binN pyIn 0 (cst (.tup c_KEPT_WORDS)))))
  q_is_name_4
  skipM) ρ := (rfl)
def q_is_name_7  : SM := (retM (cst (.bl false)))
@[simp] theorem e_is_name_7  (ρ : Ev) : q_is_name_7  ρ = (retM (cst (.bl false))) ρ := (rfl)
def q_is_name_6  : SM := (ifM (andM (asB (binN pyNotIn 1 (cst (.str c_LETTERS)))) (asB (binN pyNotIn 1 (cst (.str c_DIGITS)))))
  q_is_name_7
  skipM)
@[simp] theorem e_is_name_6  (ρ : Ev) : q_is_name_6  ρ = (ifM (andM (asB (binN pyNotIn 1 (cst (.str c_LETTERS)))) (asB (binN pyNotIn 1 (cst (.str c_DIGITS)))))
  q_is_name_7
  skipM) ρ := (rfl)
def q_is_name_5  : SM := (frM (itV (getv 0)) (tgN 1)
  q_is_name_6)
@[simp] theorem e_is_name_5  (ρ : Ev) : q_is_name_5  ρ = (frM (itV (getv 0)) (tgN 1)
  q_is_name_6) ρ := (rfl)
def q_is_name_8  : SM := (retM (cst (.bl true)))
@[simp] theorem e_is_name_8  (ρ : Ev) : q_is_name_8  ρ = (retM (cst (.bl true))) ρ := (rfl)
def m_is_name : FM := fnB 1 2
  (seqM q_is_name_1
  (seqM q_is_name_3
  (seqM q_is_name_5
  q_is_name_8)))
theorem em_is_name (as : List Slot) : m_is_name as = if as.length = 1 then fin 1 as ((seqM q_is_name_1
  (seqM q_is_name_3
  (seqM q_is_name_5
  q_is_name_8))) (enter 2 as)) else .stuck := ev_fn _ _ _ as
theorem ok_is_name {P : Program} {w : World} {K : PySem.W.Frag} {mg : Str → Option Value} {base : Heap} (B : BN K mg) (d : DefAt K mg "is_name" s_is_name ["thing"]) : FnAt P w K mg base (DW K mg) 1 "is_name" ["thing"] m_is_name :=
  fn_at d sc_is_name rfl (by decide) fun cdv A outer s H E hr tk =>
  (ss_cons (s_if (rb_w (rw_or (rb_not (rb_truth (rp_of (re_isi B.hT .str rfl (rp_var 0 (pv 0)) rfl B.b_isinstance rfl B.b_str PyProof.Rows.boot_str)) rfl)) (rw_or1 (rb_not (rb_chain op_leP op_leP sn_le sn_le re_int (re_len rfl (hg := rfl) (hm := B.b_len) (ha := (ra_n 0 (pv 0) ra_nil))) (rp_of re_int))))))
  (ss_one (s_ret re_bl))
  ss_nil)
  (ss_cons (s_if (rb_w (rw_or (rb_cmp rfl (op_notInP (hu65 hr)) sn_notIn (re_ixN (hu1 hr) rfl (pv 0) (rp_of re_int)) (rp_of (re_glob B.g_LETTERS))) (rw_or1 (rb_cmpN rfl (op_inP (hu65 hr)) sn_in (pv 0) (rp_of (re_glob B.g_KEPT_WORDS))))))
  (ss_one (s_ret re_bl))
  ss_nil)
  (ss_cons (s_fr (passes_of rfl) rfl (ri_v rfl (re_var 0 (pv 0))) (pg_name (i := 1) sc_is_name.nd rfl (by first | exact Or.inl rfl | exact Or.inr rfl)) (vs := [1]) (tgx_name (by decide))
  (ss_one (s_if (rb_w (rw_and (rb_cmpN rfl (op_notInP (hu65 hr)) sn_notIn (pv 1) (rp_of (re_glob B.g_LETTERS))) (rw_and1 (rb_cmpN rfl (op_notInP (hu65 hr)) sn_notIn (pv 1) (rp_of (re_glob B.g_DIGITS))))))
  (ss_one (s_ret re_bl))
  ss_nil)))
  (ss_one (s_ret re_bl)))))
abbrev s_is_flag : Stmt := top 12
abbrev n_is_flag : List Str := ["thing"]
theorem sc_is_flag : FnScope n_is_flag ["thing"] (defScope s_is_flag) := ⟨rfl, rfl, rfl, by decide +kernel, rfl, by decide +kernel, by decide +kernel⟩
def q_is_flag_1  : SM := (retM (isM (peek 0) .bool))
@[simp] theorem e_is_flag_1  (ρ : Ev) : q_is_flag_1  ρ = (retM (isM (peek 0) .bool)) ρ := (rfl)
def m_is_flag : FM := fnB 1 1
  q_is_flag_1
theorem em_is_flag (as : List Slot) : m_is_flag as = if as.length = 1 then fin 1 as (q_is_flag_1 (enter 1 as)) else .stuck := ev_fn _ _ _ as
theorem ok_is_flag {P : Program} {w : World} {K : PySem.W.Frag} {mg : Str → Option Value} {base : Heap} (B : BN K mg) (d : DefAt K mg "is_flag" s_is_flag ["thing"]) : FnAt P w K mg base (DW K mg) 1 "is_flag" ["thing"] m_is_flag :=
  fn_at d sc_is_flag rfl (by decide) fun cdv A outer s H E hr tk =>
  (ss_one (s_ret (re_isi B.hT .bool rfl (rp_var 0 (pv 0)) rfl B.b_isinstance rfl B.b_bool PyProof.Rows.boot_bool)))
abbrev s_is_column : Stmt := top 37
abbrev n_is_column : List Str := ["thing"]
theorem sc_is_column : FnScope n_is_column ["thing"] (defScope s_is_column) := ⟨rfl, rfl, rfl, by decide +kernel, rfl, by decide +kernel, by decide +kernel⟩
def q_is_column_2  : SM := (retM (cst (.bl false)))
@[simp] theorem e_is_column_2  (ρ : Ev) : q_is_column_2  ρ = (retM (cst (.bl false))) ρ := (rfl)
def q_is_column_1  : SM := (ifM (orM (notM (truM (callE m_is_sequence (argV (getv 0) argNil)))) (orM (asB (bin pyNe (callB bLen (argN 0 argNil)) (cst (.int 3)))) (notM (truM (callE m_is_name (argV (binN pyIx 0 (cst (.int 0))) argNil))))))
  q_is_column_2
  skipM)
@[simp] theorem e_is_column_1  (ρ : Ev) : q_is_column_1  ρ = (ifM (orM (notM (truM (callE m_is_sequence (argV (getv 0) argNil)))) (orM (asB (bin pyNe (callB bLen (argN 0 argNil)) (cst (.int 3)))) (notM (truM (callE m_is_name (argV (binN pyIx 0 (cst (.int 0))) argNil))))))
  q_is_column_2
  skipM) ρ := (rfl)
def q_is_column_3  : SM := (retM (andV' (isM (binN pyIx 0 (cst (.int 1))) .str) (andV' (bin pyIn (binN pyIx 0 (cst (.int 1))) (tupM (argV (cst (.str "number")) (argV (cst (.str "text")) argNil)))) (callE m_is_flag (argV (binN pyIx 0 (cst (.int 2))) argNil)))))
@[simp] theorem e_is_column_3  (ρ : Ev) : q_is_column_3  ρ = (retM (andV' (isM (binN pyIx 0 (cst (.int 1))) .str) (andV' (bin pyIn (binN pyIx 0 (cst (.int 1))) (tupM (argV (cst (.str "number")) (argV (cst (.str "text")) argNil)))) (callE m_is_flag (argV (binN pyIx 0 (cst (.int 2))) argNil))))) ρ := (rfl)
def m_is_column : FM := fnB 1 1
  (seqM q_is_column_1
  q_is_column_3)
theorem em_is_column (as : List Slot) : m_is_column as = if as.length = 1 then fin 1 as ((seqM q_is_column_1
  q_is_column_3) (enter 1 as)) else .stuck := ev_fn _ _ _ as
theorem ok_is_column {P : Program} {w : World} {K : PySem.W.Frag} {mg : Str → Option Value} {base : Heap} (B : BN K mg) (C_is_sequence : FnAt P w K mg base (DW K mg) 1 "is_sequence" ["thing"] m_is_sequence) (C_is_name : FnAt P w K mg base (DW K mg) 1 "is_name" ["thing"] m_is_name) (C_is_flag : FnAt P w K mg base (DW K mg) 1 "is_flag" ["thing"] m_is_flag) (d : DefAt K mg "is_column" s_is_column ["thing"]) : FnAt P w K mg base (DW K mg) 2 "is_column" ["thing"] m_is_column :=
  fn_at d sc_is_column rfl (by decide) fun cdv A outer s H E hr tk =>
  (ss_cons (s_if (rb_w (rw_or (rb_not (rb_truth (rp_of (re_callA C_is_sequence (hr.mono (by omega)) tk (ra_v (re_var 0 (pv 0)) ra_nil))) rfl)) (rw_or (rb_cmp (nomark _) (op_neP hr.units) sn_ne (re_len rfl (hg := rfl) (hm := B.b_len) (ha := (ra_n 0 (pv 0) ra_nil))) (rp_of re_int)) (rw_or1 (rb_not (rb_truth (rp_of (re_callA C_is_name (hr.mono (by omega)) tk (ra_v (re_ixN (hu1 hr) rfl (pv 0) (rp_of re_int)) ra_nil))) rfl))))))
  (ss_one (s_ret re_bl))
  ss_nil)
  (ss_one (s_ret (re_and (re_isi B.hT .str rfl (rp_of (re_ixN (hu1 hr) rfl (pv 0) (rp_of re_int))) rfl B.b_isinstance rfl B.b_str PyProof.Rows.boot_str) (re_and (re_cmp rfl (op_inP (hu65 hr)) sn_in (re_ixN (hu1 hr) rfl (pv 0) (rp_of re_int)) (rp_of (re_tup (ra_v re_str (ra_v re_str ra_nil))))) (re_one (re_callA C_is_flag (hr.mono (by omega)) tk (ra_v (re_ixN (hu1 hr) rfl (pv 0) (rp_of re_int)) ra_nil))) rfl) rfl))))
abbrev s_read_columns : Stmt := top 36
abbrev n_read_columns : List Str := ["columns", "result", "at", "column", "old"]
theorem sc_read_columns : FnScope n_read_columns ["columns"] (defScope s_read_columns) := ⟨rfl, rfl, rfl, by decide +kernel, rfl, by decide +kernel, by decide +kernel⟩
def q_read_columns_2  : SM := (raiseM 21 ["why", "at"] (argV (cst (.str "columns")) (argV (un pyNeg (cst (.int 1))) argNil)))
@[simp] theorem e_read_columns_2  (ρ : Ev) : q_read_columns_2  ρ = (raiseM 21 ["why", "at"] (argV (cst (.str "columns")) (argV (un pyNeg (cst (.int 1))) argNil))) ρ := (rfl)
def q_read_columns_1  : SM := (ifM (orM (notM (truM (callE m_is_sequence (argV (getv 0) argNil)))) (notM (asB (chn pyLe pyLe (cst (.int 1)) (callB bLen (argN 0 argNil)) (cst (.int 12))))))
  q_read_columns_2
  skipM)
@[simp] theorem e_read_columns_1  (ρ : Ev) : q_read_columns_1  ρ = (ifM (orM (notM (truM (callE m_is_sequence (argV (getv 0) argNil)))) (notM (asB (chn pyLe pyLe (cst (.int 1)) (callB bLen (argN 0 argNil)) (cst (.int 12))))))
  q_read_columns_2
  skipM) ρ := (rfl)
def q_read_columns_3  : SM := (setO 1 (lstM argNil))
@[simp] theorem e_read_columns_3  (ρ : Ev) : q_read_columns_3  ρ = (setO 1 (lstM argNil)) ρ := (rfl)
def q_read_columns_6  : SM := (raiseM 21 ["why", "at"] (argV (cst (.str "columns")) (argV (getv 2) argNil)))
@[simp] theorem e_read_columns_6  (ρ : Ev) : q_read_columns_6  ρ = (raiseM 21 ["why", "at"] (argV (cst (.str "columns")) (argV (getv 2) argNil))) ρ := (rfl)
def q_read_columns_5  : SM := (ifM (orM (notM (truM (callE m_is_column (argV (getv 3) argNil)))) (asB (bin pyIn (binN pyIx 3 (cst (.int 0))) (frz (cmpO 1 [4] (tgN 4) noT (binN pyIx 4 (cst (.int 0))))))))
  q_read_columns_6
  skipM)
@[simp] theorem e_read_columns_5  (ρ : Ev) : q_read_columns_5  ρ = (ifM (orM (notM (truM (callE m_is_column (argV (getv 3) argNil)))) (asB (bin pyIn (binN pyIx 3 (cst (.int 0))) (frz (cmpO 1 [4] (tgN 4) noT (binN pyIx 4 (cst (.int 0))))))))
  q_read_columns_6
  skipM) ρ := (rfl)
def q_read_columns_7  : SM := (exprM (methM lAppend 1 (argV (callB bTup (argN 3 argNil)) argNil)))
@[simp] theorem e_read_columns_7  (ρ : Ev) : q_read_columns_7  ρ = (exprM (methM lAppend 1 (argV (callB bTup (argN 3 argNil)) argNil))) ρ := (rfl)
def q_read_columns_4  : SM := (frM (itEn (getv 0)) (tgT [2, 3])
  (seqM q_read_columns_5
  q_read_columns_7))
@[simp] theorem e_read_columns_4  (ρ : Ev) : q_read_columns_4  ρ = (frM (itEn (getv 0)) (tgT [2, 3])
  (seqM q_read_columns_5
  q_read_columns_7)) ρ := (rfl)
def q_read_columns_8  : SM := (retM (callB bTup (argN 1 argNil)))
@[simp] theorem e_read_columns_8  (ρ : Ev) : q_read_columns_8  ρ = (retM (callB bTup (argN 1 argNil))) ρ := (rfl)
def m_read_columns : FM := fnB 1 5
  (seqM q_read_columns_1
  (seqM q_read_columns_3
  (seqM q_read_columns_4
  q_read_columns_8)))
theorem em_read_columns (as : List Slot) : m_read_columns as = if as.length = 1 then fin 1 as ((seqM q_read_columns_1
  (seqM q_read_columns_3
  (seqM q_read_columns_4
  q_read_columns_8))) (enter 5 as)) else .stuck := ev_fn _ _ _ as
theorem ok_read_columns {P : Program} {w : World} {K : PySem.W.Frag} {mg : Str → Option Value} {base : Heap} (B : BN K mg) (C_is_sequence : FnAt P w K mg base (DW K mg) 1 "is_sequence" ["thing"] m_is_sequence) (C_BadShape____init__ : XcAt P w K mg base (DW K mg) 1 21 "BadShape" ["why", "at"]) (C_is_column : FnAt P w K mg base (DW K mg) 2 "is_column" ["thing"] m_is_column) (d : DefAt K mg "read_columns" s_read_columns ["columns"]) : FnAt P w K mg base (DW K mg) 4 "read_columns" ["columns"] m_read_columns :=
  fn_at d sc_read_columns rfl (by decide) fun cdv A outer s H E hr tk =>
  (ss_cons (s_if (rb_w (rw_or (rb_not (rb_truth (rp_of (re_callA C_is_sequence (hr.mono (by omega)) tk (ra_v (re_var 0 (pv 0)) ra_nil))) rfl)) (rw_or1 (rb_not (rb_chain op_leP op_leP sn_le sn_le re_int (re_len rfl (hg := rfl) (hm := B.b_len) (ha := (ra_n 0 (pv 0) ra_nil))) (rp_of (re_glob B.g_MOST_COLUMNS)))))))
  (ss_one (s_raise C_BadShape____init__ (by simp) (hr.mono (by omega)) tk (ra_v re_str (ra_v (re_neg re_int) ra_nil))))
  ss_nil)
  (ss_cons (s_setO (i := 1) sc_read_columns.nd rfl (by first | exact Or.inl rfl | exact Or.inr rfl) (rn_lst ra_nil))
  (ss_cons (s_fr (passes_of rfl) rfl (ri_en rfl B.b_enumerate (re_var 0 (pv 0))) (pg_tup rfl (pgs_cons (pg_name (i := 2) sc_read_columns.nd rfl (by first | exact Or.inl rfl | exact Or.inr rfl)) (pgs_cons (pg_name (i := 3) sc_read_columns.nd rfl (by first | exact Or.inl rfl | exact Or.inr rfl)) pgs_nil))) (vs := [2, 3]) (tgx_tup (.cons (.cons .nil)) (by decide))
  (ss_cons (s_if (rb_w (rw_or (rb_not (rb_truth (rp_of (re_callA C_is_column (hr.mono (by omega)) tk (ra_v (re_var 3 (pv 3)) ra_nil))) rfl)) (rw_or1 (rb_cmp rfl (op_inP (hu65 hr)) sn_in (re_ixN (hu1 hr) rfl (pv 3) (rp_of re_int)) (rp_of (re_frz (rn_lcO (io := 1) (hK := rfl) (own := [("old", 4)]) (tg := (tgN 4)) (hc := rfl) (hN := sc_read_columns.nd) (ok := blkOk_by (N := n_read_columns) (sc := defScope s_read_columns) (by decide +kernel)) (hi := (pv 1)) (hg := fun _ _ _ _ _ => (pg_name (i := 4) sc_read_columns.nd rfl (by first | exact Or.inl rfl | exact Or.inr rfl))) (ht := fun _ _ _ _ _ => pts_no) (he := fun _ _ _ _ _ => (re_ixN (hu1 hr) rfl (pv 4) (rp_of re_int))) (tk := (tgx_name (by decide))))))))))
  (ss_one (s_raise C_BadShape____init__ (by simp) (hr.mono (by omega)) tk (ra_v re_str (ra_v (re_var 2 (pv 2)) ra_nil))))
  ss_nil)
  (ss_one (s_expr (re_lm PySem.F.slot_list_append PySem.F.type_list_append mt_append sn_append rfl (pv 1) (ra_v (re_tup1 (hK := rfl) (hg := rfl) (hm := B.b_tuple) (ha := (ra_n 3 (pv 3) ra_nil))) ra_nil))))))
  (ss_one (s_ret (re_tup1 (hK := rfl) (hg := rfl) (hm := B.b_tuple) (ha := (ra_n 1 (pv 1) ra_nil))))))))
abbrev s_Shape__names : Stmt := inCls (top 34) 2
abbrev n_Shape__names : List Str := ["self", "column"]
theorem sc_Shape__names : FnScope n_Shape__names ["self"] (defScope s_Shape__names) := ⟨rfl, rfl, rfl, by decide +kernel, rfl, by decide +kernel, by decide +kernel⟩
def q_Shape__names_1  : SM := (retO (cmpM [1] (itV (fldM [5] "_columns" (peek 0))) (tgN 1) noT (binN pyIx 1 (cst (.int 0)))))
@[simp] theorem e_Shape__names_1  (ρ : Ev) : q_Shape__names_1  ρ = (retO (cmpM [1] (itV (fldM [5] "_columns" (peek 0))) (tgN 1) noT (binN pyIx 1 (cst (.int 0))))) ρ := (rfl)
def m_Shape__names : FM := fnB 1 2
  q_Shape__names_1
theorem em_Shape__names (as : List Slot) : m_Shape__names as = if as.length = 1 then fin 1 as (q_Shape__names_1 (enter 2 as)) else .stuck := ev_fn _ _ _ as
theorem ok_Shape__names {P : Program} {w : World} {K : PySem.W.Frag} {mg : Str → Option Value} {base : Heap} (B : BN K mg) (d : DefMt K (DW K mg) 5 "names" "Shape.names" s_Shape__names ["self"]) : MtAt P w K mg base (DW K mg) 1 "names" 5 m_Shape__names :=
  mt_at d sc_Shape__names rfl (by decide) fun cdv A outer s H E hr tk =>
  (ss_one (s_retO (rn_lc (own := [("column", 1)]) (tg := (tgN 1)) (hc := rfl) (hN := sc_Shape__names.nd) (ok := blkOk_by (N := n_Shape__names) (sc := defScope s_Shape__names) (by decide +kernel)) (hi := (ri_v rfl (re_fld rfl (rp_var 0 (pv 0)) (cfs_cons B.f_5__columns cfs_nil)))) (hg := fun _ _ _ _ _ => (pg_name (i := 1) sc_Shape__names.nd rfl (by first | exact Or.inl rfl | exact Or.inr rfl))) (ht := fun _ _ _ _ _ => pts_no) (he := fun _ _ _ _ _ => (re_ixN (hu1 hr) rfl (pv 1) (rp_of re_int))) (tk := (tgx_name (by decide))))))
abbrev s_Test__atoms : Stmt := inCls (top 23) 4
abbrev n_Test__atoms : List Str := ["self", "part", "atom"]
theorem sc_Test__atoms : FnScope n_Test__atoms ["self"] (defScope s_Test__atoms) := ⟨rfl, rfl, rfl, by decide +kernel, rfl, by decide +kernel, by decide +kernel⟩
def q_Test__atoms_2 (r_Test__atoms : FM) : SM := (retO (lstM (argV (getv 0) argNil)))
@[simp] theorem e_Test__atoms_2 (r_Test__atoms : FM) (ρ : Ev) : q_Test__atoms_2 r_Test__atoms ρ = (retO (lstM (argV (getv 0) argNil))) ρ := (rfl)
def q_Test__atoms_1 (r_Test__atoms : FM) : SM := (ifM (notM (truM (fldM [3] "_parts" (peek 0))))
  (q_Test__atoms_2 r_Test__atoms)
  skipM)
@[simp] theorem e_Test__atoms_1 (r_Test__atoms : FM) (ρ : Ev) : q_Test__atoms_1 r_Test__atoms ρ = (ifM (notM (truM (fldM [3] "_parts" (peek 0))))
  (q_Test__atoms_2 r_Test__atoms)
  skipM) ρ := (rfl)
def q_Test__atoms_3 (r_Test__atoms : FM) : SM := (retO (cmp2M [1, 2] (itV (fldM [3] "_parts" (peek 0))) (tgN 1) (bod2 noT [2] (itV (mthE [(3, r_Test__atoms)] "atoms" (selfN 1) argNil)) (tgN 2) noT (getv 2))))
@[simp] theorem e_Test__atoms_3 (r_Test__atoms : FM) (ρ : Ev) : q_Test__atoms_3 r_Test__atoms ρ = (retO (cmp2M [1, 2] (itV (fldM [3] "_parts" (peek 0))) (tgN 1) (bod2 noT [2] (itV (mthE [(3, r_Test__atoms)] "atoms" (selfN 1) argNil)) (tgN 2) noT (getv 2)))) ρ := (rfl)
def b_Test__atoms (r_Test__atoms : FM) : FM := fnB 1 3
  (seqM (q_Test__atoms_1 r_Test__atoms)
  (q_Test__atoms_3 r_Test__atoms))
mutual
def m_Test__atoms : Nat → FM
  | 0 => stF
  | n + 1 => b_Test__atoms (m_Test__atoms n)
end
theorem em_Test__atoms (n : Nat) (as : List Slot) : m_Test__atoms (n + 1) as = if as.length = 1 then fin 1 as ((seqM (q_Test__atoms_1 (m_Test__atoms n))
  (q_Test__atoms_3 (m_Test__atoms n))) (enter 3 as)) else .stuck := by
  rw [m_Test__atoms]
  exact ev_fn _ _ _ as
theorem okb_Test__atoms {P : Program} {w : World} {K : PySem.W.Frag} {mg : Str → Option Value} {base : Heap} {k : Nat} (hk : 0 ≤ k) (r_Test__atoms : FM) (B : BN K mg) (C_Test__atoms : MtAt P w K mg base (DW K mg) k "atoms" 3 r_Test__atoms) (d : DefMt K (DW K mg) 3 "atoms" "Test.atoms" s_Test__atoms ["self"]) : MtAt P w K mg base (DW K mg) (k + 1) "atoms" 3 (b_Test__atoms r_Test__atoms) :=
  mt_at d sc_Test__atoms rfl (by decide) fun cdv A outer s H E hr tk =>
  (ss_cons (s_if (rb_not (rb_truth (rp_of (re_fld rfl (rp_var 0 (pv 0)) (cfs_cons B.f_3__parts cfs_nil))) rfl))
  (ss_one (s_retO (rn_lst (ra_v (re_var 0 (pv 0)) ra_nil))))
  ss_nil)
  (ss_one (s_retO (rn_lc2 (own := [("part", 1), ("atom", 2)]) (tg := (tgN 1)) (hc := rfl) (hN := sc_Test__atoms.nd) (ok := blkOk_by (N := n_Test__atoms) (sc := defScope s_Test__atoms) (by decide +kernel)) (hi := (ri_v rfl (re_fld rfl (rp_var 0 (pv 0)) (cfs_cons B.f_3__parts cfs_nil)))) (hg := fun _ _ _ _ _ => (pg_name (i := 1) sc_Test__atoms.nd rfl (by first | exact Or.inl rfl | exact Or.inr rfl))) (ht := fun _ _ _ _ _ => pts_no) (he := fun _ _ _ _ _ => (re_var 2 (pv 2))) (vs1 := [2]) (tg1 := (tgN 2)) (hv := by decide) (tk := (tgx_name (by decide))) (tk1 := (tgx_name (by decide))) (hi1 := fun _ _ _ _ _ => (ri_v rfl (re_mth0 (tbl_cons (C_Test__atoms.mono (by omega)) tbl_nil) hr takes0 (rs_n 1 (pv 1))))) (hg1 := fun _ _ _ _ _ => (pg_name (i := 2) sc_Test__atoms.nd rfl (by first | exact Or.inl rfl | exact Or.inr rfl))) (ht1 := fun _ _ _ _ _ => pts_no)))))
theorem oks_Test__atoms {P : Program} {w : World} {K : PySem.W.Frag} {mg : Str → Option Value} {base : Heap} (B : BN K mg) (d_Test__atoms : DefMt K (DW K mg) 3 "atoms" "Test.atoms" s_Test__atoms ["self"]) : ∀ n : Nat, (MtAt P w K mg base (DW K mg) (0 + n) "atoms" 3 (m_Test__atoms n))
  | 0 => (by rw [m_Test__atoms]; exact mt_stk d_Test__atoms)
  | n + 1 => by
    have i_Test__atoms := oks_Test__atoms (P := P) (w := w) (base := base) B d_Test__atoms n
    exact (by rw [m_Test__atoms]; exact okb_Test__atoms (Nat.le_add_right _ _) _ B i_Test__atoms d_Test__atoms)
theorem ok_Test__atoms {P : Program} {w : World} {K : PySem.W.Frag} {mg : Str → Option Value} {base : Heap} (B : BN K mg) (d_Test__atoms : DefMt K (DW K mg) 3 "atoms" "Test.atoms" s_Test__atoms ["self"]) : MtAt P w K mg base (DW K mg) 40 "atoms" 3 (m_Test__atoms 40) := (oks_Test__atoms B d_Test__atoms 40)
abbrev s_Test__data : Stmt := inCls (top 23) 2
abbrev n_Test__data : List Str := ["self"]
theorem sc_Test__data : FnScope n_Test__data ["self"] (defScope s_Test__data) := ⟨rfl, rfl, rfl, by decide +kernel, rfl, by decide +kernel, by decide +kernel⟩
def q_Test__data_1  : SM := (retM (fldM [3] "_data" (peek 0)))
@[simp] theorem e_Test__data_1  (ρ : Ev) : q_Test__data_1  ρ = (retM (fldM [3] "_data" (peek 0))) ρ := (rfl)
def m_Test__data : FM := fnB 1 1
  q_Test__data_1
theorem em_Test__data (as : List Slot) : m_Test__data as = if as.length = 1 then fin 1 as (q_Test__data_1 (enter 1 as)) else .stuck := ev_fn _ _ _ as
theorem ok_Test__data {P : Program} {w : World} {K : PySem.W.Frag} {mg : Str → Option Value} {base : Heap} (B : BN K mg) (d : DefMt K (DW K mg) 3 "data" "Test.data" s_Test__data ["self"]) : MtAt P w K mg base (DW K mg) 1 "data" 3 m_Test__data :=
  mt_at d sc_Test__data rfl (by decide) fun cdv A outer s H E hr tk =>
  (ss_one (s_ret (re_fld rfl (rp_var 0 (pv 0)) (cfs_cons B.f_3__data cfs_nil))))
abbrev s_Test__kind : Stmt := inCls (top 23) 1
abbrev n_Test__kind : List Str := ["self"]
theorem sc_Test__kind : FnScope n_Test__kind ["self"] (defScope s_Test__kind) := ⟨rfl, rfl, rfl, by decide +kernel, rfl, by decide +kernel, by decide +kernel⟩
def q_Test__kind_1  : SM := (retM (fldM [3] "_kind" (peek 0)))
@[simp] theorem e_Test__kind_1  (ρ : Ev) : q_Test__kind_1  ρ = (retM (fldM [3] "_kind" (peek 0))) ρ := (rfl)
def m_Test__kind : FM := fnB 1 1
  q_Test__kind_1
theorem em_Test__kind (as : List Slot) : m_Test__kind as = if as.length = 1 then fin 1 as (q_Test__kind_1 (enter 1 as)) else .stuck := ev_fn _ _ _ as
theorem ok_Test__kind {P : Program} {w : World} {K : PySem.W.Frag} {mg : Str → Option Value} {base : Heap} (B : BN K mg) (d : DefMt K (DW K mg) 3 "kind" "Test.kind" s_Test__kind ["self"]) : MtAt P w K mg base (DW K mg) 1 "kind" 3 m_Test__kind :=
  mt_at d sc_Test__kind rfl (by decide) fun cdv A outer s H E hr tk =>
  (ss_one (s_ret (re_fld rfl (rp_var 0 (pv 0)) (cfs_cons B.f_3__kind cfs_nil))))
abbrev s_columns_of : Stmt := top 26
abbrev n_columns_of : List Str := ["atom", "data"]
theorem sc_columns_of : FnScope n_columns_of ["atom"] (defScope s_columns_of) := ⟨rfl, rfl, rfl, by decide +kernel, rfl, by decide +kernel, by decide +kernel⟩
def q_columns_of_1  : SM := (setM 1 (mthE [(3, m_Test__data)] "data" (selfN 0) argNil))
@[simp] theorem e_columns_of_1  (ρ : Ev) : q_columns_of_1  ρ = (setM 1 (mthE [(3, m_Test__data)] "data" (selfN 0) argNil)) ρ := (rfl)
def q_columns_of_3  : SM := (retO (lstM (argV (binN pyIx 1 (cst (.int 0))) (argV (binN pyIx 1 (cst (.int 2))) argNil))))
@[simp] theorem e_columns_of_3  (ρ : Ev) : q_columns_of_3  ρ = (retO (lstM (argV (binN pyIx 1 (cst (.int 0))) (argV (binN pyIx 1 (cst (.int 2))) argNil)))) ρ := (rfl)
def q_columns_of_2  : SM := (ifM (asB (bin pyEq (mthE [(3, m_Test__kind)] "kind" (selfN 0) argNil) (cst (.str "against"))))
  q_columns_of_3
  skipM)
@[simp] theorem e_columns_of_2  (ρ : Ev) : q_columns_of_2  ρ = (ifM (asB (bin pyEq (mthE [(3, m_Test__kind)] "kind" (selfN 0) argNil) (cst (.str "against"))))
  q_columns_of_3
  skipM) ρ := (rfl)
def q_columns_of_4  : SM := (retM (iteM (truM (peek 1)) (frz (lstM (argV (binN pyIx 1 (cst (.int 0))) argNil))) (frz (lstM argNil))))
@[simp] theorem e_columns_of_4  (ρ : Ev) : q_columns_of_4  ρ = (retM (iteM (truM (peek 1)) (frz (lstM (argV (binN pyIx 1 (cst (.int 0))) argNil))) (frz (lstM argNil)))) ρ := (rfl)
def m_columns_of : FM := fnB 1 2
  (seqM q_columns_of_1
  (seqM q_columns_of_2
  q_columns_of_4))
theorem em_columns_of (as : List Slot) : m_columns_of as = if as.length = 1 then fin 1 as ((seqM q_columns_of_1
  (seqM q_columns_of_2
  q_columns_of_4)) (enter 2 as)) else .stuck := ev_fn _ _ _ as
theorem ok_columns_of {P : Program} {w : World} {K : PySem.W.Frag} {mg : Str → Option Value} {base : Heap} (B : BN K mg) (C_Test__data : MtAt P w K mg base (DW K mg) 1 "data" 3 m_Test__data) (C_Test__kind : MtAt P w K mg base (DW K mg) 1 "kind" 3 m_Test__kind) (d : DefAt K mg "columns_of" s_columns_of ["atom"]) : FnAt P w K mg base (DW K mg) 2 "columns_of" ["atom"] m_columns_of :=
  fn_at d sc_columns_of rfl (by decide) fun cdv A outer s H E hr tk =>
  (ss_cons (s_set (i := 1) sc_columns_of.nd rfl (by first | exact Or.inl rfl | exact Or.inr rfl) (re_mth0 (tbl_cons (C_Test__data.mono (by omega)) tbl_nil) hr tk (rs_n 0 (pv 0))))
  (ss_cons (s_if (rb_cmp (nomark _) (op_eqP hr.units) sn_eq (re_mth0 (tbl_cons (C_Test__kind.mono (by omega)) tbl_nil) hr tk (rs_n 0 (pv 0))) (rp_of re_str))
  (ss_one (s_retO (rn_lst (ra_v (re_ixN (hu1 hr) rfl (pv 1) (rp_of re_int)) (ra_v (re_ixN (hu1 hr) rfl (pv 1) (rp_of re_int)) ra_nil)))))
  ss_nil)
  (ss_one (s_ret (re_if (rb_truth (rp_var 1 (pv 1)) rfl) (re_frz (rn_lst (ra_v (re_ixN (hu1 hr) rfl (pv 1) (rp_of re_int)) ra_nil))) (re_frz (rn_lst ra_nil)))))))
abbrev s_sorted_plain : Stmt := top 18
abbrev n_sorted_plain : List Str := ["items", "result", "item", "at"]
theorem sc_sorted_plain : FnScope n_sorted_plain ["items"] (defScope s_sorted_plain) := ⟨rfl, rfl, rfl, by decide +kernel, rfl, by decide +kernel, by decide +kernel⟩
def q_sorted_plain_1  : SM := (setO 1 (lstM argNil))
@[simp] theorem e_sorted_plain_1  (ρ : Ev) : q_sorted_plain_1  ρ = (setO 1 (lstM argNil)) ρ := (rfl)
def q_sorted_plain_3  : SM := (setM 3 (callB bLen (argN 1 argNil)))
@[simp] theorem e_sorted_plain_3  (ρ : Ev) : q_sorted_plain_3  ρ = (setM 3 (callB bLen (argN 1 argNil))) ρ := (rfl)
def q_sorted_plain_5  : SM := (setAug 3 (fun i j => i - j) (cst (.int 1)))
@[simp] theorem e_sorted_plain_5  (ρ : Ev) : q_sorted_plain_5  ρ = (setAug 3 (fun i j => i - j) (cst (.int 1))) ρ := (rfl)
def q_sorted_plain_4  : SM := (whM (andM (asB (binN pyGt 3 (cst (.int 0)))) (asB (binN pyLt 2 (binN pyIx 1 (binN pySub 3 (cst (.int 1)))))))
  q_sorted_plain_5)
@[simp] theorem e_sorted_plain_4  (ρ : Ev) : q_sorted_plain_4  ρ = (whM (andM (asB (binN pyGt 3 (cst (.int 0)))) (asB (binN pyLt 2 (binN pyIx 1 (binN pySub 3 (cst (.int 1)))))))
  q_sorted_plain_5) ρ := (rfl)
def q_sorted_plain_6  : SM := (exprM (methM lInsert 1 (argV (getv 3) (argV (getv 2) argNil))))
@[simp] theorem e_sorted_plain_6  (ρ : Ev) : q_sorted_plain_6  ρ = (exprM (methM lInsert 1 (argV (getv 3) (argV (getv 2) argNil)))) ρ := (rfl)
def q_sorted_plain_2  : SM := (frM (itV (getv 0)) (tgN 2)
  (seqM q_sorted_plain_3
  (seqM q_sorted_plain_4
  q_sorted_plain_6)))
@[simp] theorem e_sorted_plain_2  (ρ : Ev) : q_sorted_plain_2  ρ = (frM (itV (getv 0)) (tgN 2)
  (seqM q_sorted_plain_3
  (seqM q_sorted_plain_4
  q_sorted_plain_6))) ρ := (rfl)
def q_sorted_plain_7  : SM := (retV 1)
@[simp] theorem e_sorted_plain_7  (ρ : Ev) : q_sorted_plain_7  ρ = (retV 1) ρ := (rfl)
def m_sorted_plain : FM := fnB 1 4
  (seqM q_sorted_plain_1
  (seqM q_sorted_plain_2
  q_sorted_plain_7))
theorem em_sorted_plain (as : List Slot) : m_sorted_plain as = if as.length = 1 then fin 1 as ((seqM q_sorted_plain_1
  (seqM q_sorted_plain_2
  q_sorted_plain_7)) (enter 4 as)) else .stuck := ev_fn _ _ _ as
theorem ok_sorted_plain {P : Program} {w : World} {K : PySem.W.Frag} {mg : Str → Option Value} {base : Heap} (B : BN K mg) (d : DefAt K mg "sorted_plain" s_sorted_plain ["items"]) : FnAt P w K mg base (DW K mg) 1 "sorted_plain" ["items"] m_sorted_plain :=
  fn_at d sc_sorted_plain rfl (by decide) fun cdv A outer s H E hr tk =>
  (ss_cons (s_setO (i := 1) sc_sorted_plain.nd rfl (by first | exact Or.inl rfl | exact Or.inr rfl) (rn_lst ra_nil))
  (ss_cons (s_fr (passes_of rfl) rfl (ri_v rfl (re_var 0 (pv 0))) (pg_name (i := 2) sc_sorted_plain.nd rfl (by first | exact Or.inl rfl | exact Or.inr rfl)) (vs := [2]) (tgx_name (by decide))
  (ss_cons (s_set (i := 3) sc_sorted_plain.nd rfl (by first | exact Or.inl rfl | exact Or.inr rfl) (re_len rfl (hg := rfl) (hm := B.b_len) (ha := (ra_n 1 (pv 1) ra_nil))))
  (ss_cons (s_while (passes_of rfl) (rb_w (rw_and (rb_cmpN (nomark _) op_gtP sn_gt (pv 3) (rp_of re_int)) (rw_and1 (rb_cmpN (nomark _) op_ltP sn_lt (pv 2) (rp_of (re_ixN (hu1 hr) rfl (pv 1) (rp_of (re_binN op_subP sn_sub (pv 3) (rp_of re_int)))))))))
  (ss_one (s_aug (i := 3) ip_sub sc_sorted_plain.nd rfl (by first | exact Or.inl rfl | exact Or.inr rfl) re_int)))
  (ss_one (s_expr (re_lm PySem.F.slot_list_insert PySem.F.type_list_insert mt_insert sn_insert rfl (pv 1) (ra_v (re_var 3 (pv 3)) (ra_v (re_var 2 (pv 2)) ra_nil))))))))
  (ss_one (s_retV 1 (pv 1)))))
abbrev s_Test__names : Stmt := inCls (top 23) 6
abbrev n_Test__names : List Str := ["self", "found", "atom", "name"]
theorem sc_Test__names : FnScope n_Test__names ["self"] (defScope s_Test__names) := ⟨rfl, rfl, rfl, by decide +kernel, rfl, by decide +kernel, by decide +kernel⟩
def q_Test__names_1  : SM := (setO 1 (lstM argNil))
@[simp] theorem e_Test__names_1  (ρ : Ev) : q_Test__names_1  ρ = (setO 1 (lstM argNil)) ρ := (rfl)
def q_Test__names_5  : SM := (exprM (methM lAppend 1 (argV (getv 3) argNil)))
@[simp] theorem e_Test__names_5  (ρ : Ev) : q_Test__names_5  ρ = (exprM (methM lAppend 1 (argV (getv 3) argNil))) ρ := (rfl)
def q_Test__names_4  : SM := (ifM (asB (binN pyNotIn 3 (peek 1)))
  q_Test__names_5
  skipM)
@[simp] theorem e_Test__names_4  (ρ : Ev) : q_Test__names_4  ρ = (ifM (asB (binN pyNotIn 3 (peek 1)))
  q_Test__names_5
  skipM) ρ := (rfl)
def q_Test__names_3  : SM := (frM (itV (callE m_columns_of (argV (getv 2) argNil))) (tgN 3)
  q_Test__names_4)
@[simp] theorem e_Test__names_3  (ρ : Ev) : q_Test__names_3  ρ = (frM (itV (callE m_columns_of (argV (getv 2) argNil))) (tgN 3)
  q_Test__names_4) ρ := (rfl)
def q_Test__names_2  : SM := (frM (itV (mthE [(3, (m_Test__atoms 40))] "atoms" (selfN 0) argNil)) (tgN 2)
  q_Test__names_3)
@[simp] theorem e_Test__names_2  (ρ : Ev) : q_Test__names_2  ρ = (frM (itV (mthE [(3, (m_Test__atoms 40))] "atoms" (selfN 0) argNil)) (tgN 2)
  q_Test__names_3) ρ := (rfl)
def q_Test__names_6  : SM := (retO (callO m_sorted_plain (argV (getv 1) argNil)))
@[simp] theorem e_Test__names_6  (ρ : Ev) : q_Test__names_6  ρ = (retO (callO m_sorted_plain (argV (getv 1) argNil))) ρ := (rfl)
def m_Test__names : FM := fnB 1 4
  (seqM q_Test__names_1
  (seqM q_Test__names_2
  q_Test__names_6))
theorem em_Test__names (as : List Slot) : m_Test__names as = if as.length = 1 then fin 1 as ((seqM q_Test__names_1
  (seqM q_Test__names_2
  q_Test__names_6)) (enter 4 as)) else .stuck := ev_fn _ _ _ as
theorem ok_Test__names {P : Program} {w : World} {K : PySem.W.Frag} {mg : Str → Option Value} {base : Heap} (B : BN K mg) (C_Test__atoms : MtAt P w K mg base (DW K mg) 40 "atoms" 3 (m_Test__atoms 40)) (C_columns_of : FnAt P w K mg base (DW K mg) 2 "columns_of" ["atom"] m_columns_of) (C_sorted_plain : FnAt P w K mg base (DW K mg) 1 "sorted_plain" ["items"] m_sorted_plain) (d : DefMt K (DW K mg) 3 "names" "Test.names" s_Test__names ["self"]) : MtAt P w K mg base (DW K mg) 41 "names" 3 m_Test__names :=
  mt_at d sc_Test__names rfl (by decide) fun cdv A outer s H E hr tk =>
  (ss_cons (s_setO (i := 1) sc_Test__names.nd rfl (by first | exact Or.inl rfl | exact Or.inr rfl) (rn_lst ra_nil))
  (ss_cons (s_fr (passes_of rfl) rfl (ri_v rfl (re_mth0 (tbl_cons (C_Test__atoms.mono (by omega)) tbl_nil) hr tk (rs_n 0 (pv 0)))) (pg_name (i := 2) sc_Test__names.nd rfl (by first | exact Or.inl rfl | exact Or.inr rfl)) (vs := [2]) (tgx_name (by decide))
  (ss_one (s_fr (passes_of rfl) rfl (ri_v rfl (re_callA C_columns_of (hr.mono (by omega)) tk (ra_v (re_var 2 (pv 2)) ra_nil))) (pg_name (i := 3) sc_Test__names.nd rfl (by first | exact Or.inl rfl | exact Or.inr rfl)) (vs := [3]) (tgx_name (by decide))
  (ss_one (s_if (rb_cmpN rfl (op_notInP (hu65 hr)) sn_notIn (pv 3) (rp_var 1 (pv 1)))
  (ss_one (s_expr (re_lm PySem.F.slot_list_append PySem.F.type_list_append mt_append sn_append rfl (pv 1) (ra_v (re_var 3 (pv 3)) ra_nil))))
  ss_nil)))))
  (ss_one (s_retO (rn_callA C_sorted_plain (hr.mono (by omega)) tk (ra_v (re_var 1 (pv 1)) ra_nil))))))
abbrev s_is_integer : Stmt := top 11
abbrev n_is_integer : List Str := ["thing"]
theorem sc_is_integer : FnScope n_is_integer ["thing"] (defScope s_is_integer) := ⟨rfl, rfl, rfl, by decide +kernel, rfl, by decide +kernel, by decide +kernel⟩
def q_is_integer_1  : SM := (retM (andV' (isM (peek 0) .int) (un pyNot (isM (peek 0) .bool))))
@[simp] theorem e_is_integer_1  (ρ : Ev) : q_is_integer_1  ρ = (retM (andV' (isM (peek 0) .int) (un pyNot (isM (peek 0) .bool)))) ρ := (rfl)
def m_is_integer : FM := fnB 1 1
  q_is_integer_1
theorem em_is_integer (as : List Slot) : m_is_integer as = if as.length = 1 then fin 1 as (q_is_integer_1 (enter 1 as)) else .stuck := ev_fn _ _ _ as
theorem ok_is_integer {P : Program} {w : World} {K : PySem.W.Frag} {mg : Str → Option Value} {base : Heap} (B : BN K mg) (d : DefAt K mg "is_integer" s_is_integer ["thing"]) : FnAt P w K mg base (DW K mg) 1 "is_integer" ["thing"] m_is_integer :=
  fn_at d sc_is_integer rfl (by decide) fun cdv A outer s H E hr tk =>
  (ss_one (s_ret (re_and (re_isi B.hT .int rfl (rp_var 0 (pv 0)) rfl B.b_isinstance rfl B.b_int PyProof.Rows.boot_int) (re_one (re_notV (re_isi B.hT .bool rfl (rp_var 0 (pv 0)) rfl B.b_isinstance rfl B.b_bool PyProof.Rows.boot_bool) rfl)) rfl)))
abbrev s_is_text : Stmt := top 14
abbrev n_is_text : List Str := ["thing", "char"]
theorem sc_is_text : FnScope n_is_text ["thing"] (defScope s_is_text) := ⟨rfl, rfl, rfl, by decide +kernel, rfl, by decide +kernel, by decide +kernel⟩
def q_is_text_2  : SM := (retM (cst (.bl false)))
@[simp] theorem e_is_text_2  (ρ : Ev) : q_is_text_2  ρ = (retM (cst (.bl false))) ρ := (rfl)
def q_is_text_1  : SM := (ifM (notM (truM (isM (peek 0) .str)))
  q_is_text_2
  skipM)
@[simp] theorem e_is_text_1  (ρ : Ev) : q_is_text_1  ρ = (ifM (notM (truM (isM (peek 0) .str)))
  q_is_text_2
  skipM) ρ := (rfl)
def q_is_text_5  : SM := (retM (cst (.bl false)))
@[simp] theorem e_is_text_5  (ρ : Ev) : q_is_text_5  ρ = (retM (cst (.bl false))) ρ := (rfl)
def q_is_text_4  : SM := (ifM (asB (binN pyNotIn 1 (cst (.str c_CHARS))))
  q_is_text_5
  skipM)
@[simp] theorem e_is_text_4  (ρ : Ev) : q_is_text_4  ρ = (ifM (asB (binN pyNotIn 1 (cst (.str c_CHARS))))
  q_is_text_5
  skipM) ρ := (rfl)
def q_is_text_3  : SM := (frM (itV (getv 0)) (tgN 1)
  q_is_text_4)
@[simp] theorem e_is_text_3  (ρ : Ev) : q_is_text_3  ρ = (frM (itV (getv 0)) (tgN 1)
  q_is_text_4) ρ := (rfl)
def q_is_text_6  : SM := (retM (cst (.bl true)))
@[simp] theorem e_is_text_6  (ρ : Ev) : q_is_text_6  ρ = (retM (cst (.bl true))) ρ := (rfl)
def m_is_text : FM := fnB 1 2
  (seqM q_is_text_1
  (seqM q_is_text_3
  q_is_text_6))
theorem em_is_text (as : List Slot) : m_is_text as = if as.length = 1 then fin 1 as ((seqM q_is_text_1
  (seqM q_is_text_3
  q_is_text_6)) (enter 2 as)) else .stuck := ev_fn _ _ _ as
theorem ok_is_text {P : Program} {w : World} {K : PySem.W.Frag} {mg : Str → Option Value} {base : Heap} (B : BN K mg) (d : DefAt K mg "is_text" s_is_text ["thing"]) : FnAt P w K mg base (DW K mg) 1 "is_text" ["thing"] m_is_text :=
  fn_at d sc_is_text rfl (by decide) fun cdv A outer s H E hr tk =>
  (ss_cons (s_if (rb_not (rb_truth (rp_of (re_isi B.hT .str rfl (rp_var 0 (pv 0)) rfl B.b_isinstance rfl B.b_str PyProof.Rows.boot_str)) rfl))
  (ss_one (s_ret re_bl))
  ss_nil)
  (ss_cons (s_fr (passes_of rfl) rfl (ri_v rfl (re_var 0 (pv 0))) (pg_name (i := 1) sc_is_text.nd rfl (by first | exact Or.inl rfl | exact Or.inr rfl)) (vs := [1]) (tgx_name (by decide))
  (ss_one (s_if (rb_cmpN rfl (op_notInP (hu65 hr)) sn_notIn (pv 1) (rp_of (re_glob B.g_CHARS)))
  (ss_one (s_ret re_bl))
  ss_nil)))
  (ss_one (s_ret re_bl))))
abbrev s_kind_of : Stmt := top 16
abbrev n_kind_of : List Str := ["value"]
theorem sc_kind_of : FnScope n_kind_of ["value"] (defScope s_kind_of) := ⟨rfl, rfl, rfl, by decide +kernel, rfl, by decide +kernel, by decide +kernel⟩
def q_kind_of_2  : SM := (retM (cst (.str "number")))
@[simp] theorem e_kind_of_2  (ρ : Ev) : q_kind_of_2  ρ = (retM (cst (.str "number"))) ρ := (rfl)
def q_kind_of_1  : SM := (ifM (truM (callE m_is_integer (argV (getv 0) argNil)))
  q_kind_of_2
  skipM)
@[simp] theorem e_kind_of_1  (ρ : Ev) : q_kind_of_1  ρ = (ifM (truM (callE m_is_integer (argV (getv 0) argNil)))
  q_kind_of_2
  skipM) ρ := (rfl)
def q_kind_of_4  : SM := (retM (cst (.str "text")))
@[simp] theorem e_kind_of_4  (ρ : Ev) : q_kind_of_4  ρ = (retM (cst (.str "text"))) ρ := (rfl)
def q_kind_of_3  : SM := (ifM (truM (callE m_is_text (argV (getv 0) argNil)))
  q_kind_of_4
  skipM)
@[simp] theorem e_kind_of_3  (ρ : Ev) : q_kind_of_3  ρ = (ifM (truM (callE m_is_text (argV (getv 0) argNil)))
  q_kind_of_4
  skipM) ρ := (rfl)
def q_kind_of_5  : SM := (retM (cst .non))
@[simp] theorem e_kind_of_5  (ρ : Ev) : q_kind_of_5  ρ = (retM (cst .non)) ρ := (rfl)
def m_kind_of : FM := fnB 1 1
  (seqM q_kind_of_1
  (seqM q_kind_of_3
  q_kind_of_5))
theorem em_kind_of (as : List Slot) : m_kind_of as = if as.length = 1 then fin 1 as ((seqM q_kind_of_1
  (seqM q_kind_of_3
  q_kind_of_5)) (enter 1 as)) else .stuck := ev_fn _ _ _ as
theorem ok_kind_of {P : Program} {w : World} {K : PySem.W.Frag} {mg : Str → Option Value} {base : Heap} (B : BN K mg) (C_is_integer : FnAt P w K mg base (DW K mg) 1 "is_integer" ["thing"] m_is_integer) (C_is_text : FnAt P w K mg base (DW K mg) 1 "is_text" ["thing"] m_is_text) (d : DefAt K mg "kind_of" s_kind_of ["value"]) : FnAt P w K mg base (DW K mg) 2 "kind_of" ["value"] m_kind_of :=
  fn_at d sc_kind_of rfl (by decide) fun cdv A outer s H E hr tk =>
  (ss_cons (s_if (rb_truth (rp_of (re_callA C_is_integer (hr.mono (by omega)) tk (ra_v (re_var 0 (pv 0)) ra_nil))) rfl)
  (ss_one (s_ret re_str))
  ss_nil)
  (ss_cons (s_if (rb_truth (rp_of (re_callA C_is_text (hr.mono (by omega)) tk (ra_v (re_var 0 (pv 0)) ra_nil))) rfl)
  (ss_one (s_ret re_str))
  ss_nil)
  (ss_one (s_ret re_non))))
abbrev s_is_value : Stmt := top 17
abbrev n_is_value : List Str := ["kind", "thing", "found"]
theorem sc_is_value : FnScope n_is_value ["kind", "thing"] (defScope s_is_value) := ⟨rfl, rfl, rfl, by decide +kernel, rfl, by decide +kernel, by decide +kernel⟩
def q_is_value_1  : SM := (setM 2 (callE m_kind_of (argV (getv 1) argNil)))
@[simp] theorem e_is_value_1  (ρ : Ev) : q_is_value_1  ρ = (setM 2 (callE m_kind_of (argV (getv 1) argNil))) ρ := (rfl)
def q_is_value_2  : SM := (retM (andV' (binN pyIsNot 2 (cst .non)) (binN pyEq 2 (peek 0))))
@[simp] theorem e_is_value_2  (ρ : Ev) : q_is_value_2  ρ = (retM (andV' (binN pyIsNot 2 (cst .non)) (binN pyEq 2 (peek 0)))) ρ := (rfl)
def m_is_value : FM := fnB 2 3
  (seqM q_is_value_1
  q_is_value_2)
theorem em_is_value (as : List Slot) : m_is_value as = if as.length = 2 then fin 2 as ((seqM q_is_value_1
  q_is_value_2) (enter 3 as)) else .stuck := ev_fn _ _ _ as
theorem ok_is_value {P : Program} {w : World} {K : PySem.W.Frag} {mg : Str → Option Value} {base : Heap} (B : BN K mg) (C_kind_of : FnAt P w K mg base (DW K mg) 2 "kind_of" ["value"] m_kind_of) (d : DefAt K mg "is_value" s_is_value ["kind", "thing"]) : FnAt P w K mg base (DW K mg) 3 "is_value" ["kind", "thing"] m_is_value :=
  fn_at d sc_is_value rfl (by decide) fun cdv A outer s H E hr tk =>
  (ss_cons (s_set (i := 2) sc_is_value.nd rfl (by first | exact Or.inl rfl | exact Or.inr rfl) (re_callA C_kind_of (hr.mono (by omega)) tk (ra_v (re_var 1 (pv 1)) ra_nil)))
  (ss_one (s_ret (re_and (re_cmpN (nomark _) op_isNotP sn_isNot (pv 2) (rp_of re_non)) (re_one (re_cmpN (nomark _) (op_eqP hr.units) sn_eq (pv 2) (rp_var 0 (pv 0)))) rfl))))
abbrev s_atom_fits : Stmt := top 42
abbrev n_atom_fits : List Str := ["kinds", "kind", "data", "value"]
theorem sc_atom_fits : FnScope n_atom_fits ["kinds", "kind", "data"] (defScope s_atom_fits) := ⟨rfl, rfl, rfl, by decide +kernel, rfl, by decide +kernel, by decide +kernel⟩
def q_atom_fits_2  : SM := (retM (callE m_is_value (argV (binN pyIx 0 (binN pyIx 2 (cst (.int 0)))) (argV (binN pyIx 2 (cst (.int 2))) argNil))))
@[simp] theorem e_atom_fits_2  (ρ : Ev) : q_atom_fits_2  ρ = (retM (callE m_is_value (argV (binN pyIx 0 (binN pyIx 2 (cst (.int 0)))) (argV (binN pyIx 2 (cst (.int 2))) argNil)))) ρ := (rfl)
def q_atom_fits_1  : SM := (ifM (asB (binN pyEq 1 (cst (.str "compare"))))
  q_atom_fits_2
  skipM)
@[simp] theorem e_atom_fits_1  (ρ : Ev) : q_atom_fits_1  ρ = (ifM (asB (binN pyEq 1 (cst (.str "compare"))))
  q_atom_fits_2
  skipM) ρ := (rfl)
def q_atom_fits_6  : SM := (retM (cst (.bl false)))
@[simp] theorem e_atom_fits_6  (ρ : Ev) : q_atom_fits_6  ρ = (retM (cst (.bl false))) ρ := (rfl)
def q_atom_fits_5  : SM := (ifM (notM (truM (callE m_is_value (argV (binN pyIx 0 (binN pyIx 2 (cst (.int 0)))) (argV (getv 3) argNil)))))
  q_atom_fits_6
  skipM)
@[simp] theorem e_atom_fits_5  (ρ : Ev) : q_atom_fits_5  ρ = (ifM (notM (truM (callE m_is_value (argV (binN pyIx 0 (binN pyIx 2 (cst (.int 0)))) (argV (getv 3) argNil)))))
  q_atom_fits_6
  skipM) ρ := (rfl)
def q_atom_fits_4  : SM := (frM (itV (binN pyIx 2 (cst (.int 1)))) (tgN 3)
  q_atom_fits_5)
@[simp] theorem e_atom_fits_4  (ρ : Ev) : q_atom_fits_4  ρ = (frM (itV (binN pyIx 2 (cst (.int 1)))) (tgN 3)
  q_atom_fits_5) ρ := (rfl)
def q_atom_fits_3  : SM := (ifM (asB (binN pyEq 1 (cst (.str "among"))))
  q_atom_fits_4
  skipM)
@[simp] theorem e_atom_fits_3  (ρ : Ev) : q_atom_fits_3  ρ = (ifM (asB (binN pyEq 1 (cst (.str "among"))))
  q_atom_fits_4
  skipM) ρ := (rfl)
def q_atom_fits_8  : SM := (retM (bin pyEq (binN pyIx 0 (binN pyIx 2 (cst (.int 0)))) (cst (.str "text"))))
@[simp] theorem e_atom_fits_8  (ρ : Ev) : q_atom_fits_8  ρ = (retM (bin pyEq (binN pyIx 0 (binN pyIx 2 (cst (.int 0)))) (cst (.str "text")))) ρ := (rfl)
def q_atom_fits_7  : SM := (ifM (asB (binN pyEq 1 (cst (.str "begins"))))
  q_atom_fits_8
  skipM)
@[simp] theorem e_atom_fits_7  (ρ : Ev) : q_atom_fits_7  ρ = (ifM (asB (binN pyEq 1 (cst (.str "begins"))))
  q_atom_fits_8
  skipM) ρ := (rfl)
def q_atom_fits_10  : SM := (retM (andV' (bin pyEq (binN pyIx 0 (binN pyIx 2 (cst (.int 0)))) (binN pyIx 0 (binN pyIx 2 (cst (.int 2))))) (orV' (bin pyEq (binN pyIx 0 (binN pyIx 2 (cst (.int 0)))) (cst (.str "number"))) (bin pyEq (binN pyIx 2 (cst (.int 3))) (cst (.int 0))))))
@[simp] theorem e_atom_fits_10  (ρ : Ev) : q_atom_fits_10  ρ = (retM (andV' (bin pyEq (binN pyIx 0 (binN pyIx 2 (cst (.int 0)))) (binN pyIx 0 (binN pyIx 2 (cst (.int 2))))) (orV' (bin pyEq (binN pyIx 0 (binN pyIx 2 (cst (.int 0)))) (cst (.str "number"))) (bin pyEq (binN pyIx 2 (cst (.int 3))) (cst (.int 0)))))) ρ := (rfl)
def q_atom_fits_9  : SM := (ifM (asB (binN pyEq 1 (cst (.str "against"))))
  q_atom_fits_10
  skipM)
@[simp] theorem e_atom_fits_9  (ρ : Ev) : q_atom_fits_9  ρ = (ifM (asB (binN pyEq 1 (cst (.str "against"))))
  q_atom_fits_10
  skipM) ρ := (rfl)
def q_atom_fits_11  : SM := (retM (cst (.bl true)))
@[simp] theorem e_atom_fits_11  (ρ : Ev) : q_atom_fits_11  ρ = (retM (cst (.bl true))) ρ := (rfl)
def m_atom_fits : FM := fnB 3 4
  (seqM q_atom_fits_1
  (seqM q_atom_fits_3
  (seqM q_atom_fits_7
  (seqM q_atom_fits_9
  q_atom_fits_11))))
theorem em_atom_fits (as : List Slot) : m_atom_fits as = if as.length = 3 then fin 3 as ((seqM q_atom_fits_1
  (seqM q_atom_fits_3
  (seqM q_atom_fits_7
  (seqM q_atom_fits_9
  q_atom_fits_11)))) (enter 4 as)) else .stuck := ev_fn _ _ _ as
theorem ok_atom_fits {P : Program} {w : World} {K : PySem.W.Frag} {mg : Str → Option Value} {base : Heap} (B : BN K mg) (C_is_value : FnAt P w K mg base (DW K mg) 3 "is_value" ["kind", "thing"] m_is_value) (d : DefAt K mg "atom_fits" s_atom_fits ["kinds", "kind", "data"]) : FnAt P w K mg base (DW K mg) 4 "atom_fits" ["kinds", "kind", "data"] m_atom_fits :=
  fn_at d sc_atom_fits rfl (by decide) fun cdv A outer s H E hr tk =>
  (ss_cons (s_if (rb_cmpN (nomark _) (op_eqP hr.units) sn_eq (pv 1) (rp_of re_str))
  (ss_one (s_ret (re_callA C_is_value (hr.mono (by omega)) tk (ra_v (re_ixN (hu1 hr) rfl (pv 0) (rp_of (re_ixN (hu1 hr) rfl (pv 2) (rp_of re_int)))) (ra_v (re_ixN (hu1 hr) rfl (pv 2) (rp_of re_int)) ra_nil)))))
  ss_nil)
  (ss_cons (s_if (rb_cmpN (nomark _) (op_eqP hr.units) sn_eq (pv 1) (rp_of re_str))
  (ss_one (s_fr (passes_of rfl) rfl (ri_v rfl (re_ixN (hu1 hr) rfl (pv 2) (rp_of re_int))) (pg_name (i := 3) sc_atom_fits.nd rfl (by first | exact Or.inl rfl | exact Or.inr rfl)) (vs := [3]) (tgx_name (by decide))
  (ss_one (s_if (rb_not (rb_truth (rp_of (re_callA C_is_value (hr.mono (by omega)) tk (ra_v (re_ixN (hu1 hr) rfl (pv 0) (rp_of (re_ixN (hu1 hr) rfl (pv 2) (rp_of re_int)))) (ra_v (re_var 3 (pv 3)) ra_nil)))) rfl))
  (ss_one (s_ret re_bl))
  ss_nil))))
  ss_nil)
  (ss_cons (s_if (rb_cmpN (nomark _) (op_eqP hr.units) sn_eq (pv 1) (rp_of re_str))
  (ss_one (s_ret (re_cmp (nomark _) (op_eqP hr.units) sn_eq (re_ixN (hu1 hr) rfl (pv 0) (rp_of (re_ixN (hu1 hr) rfl (pv 2) (rp_of re_int)))) (rp_of re_str))))
  ss_nil)
  (ss_cons (s_if (rb_cmpN (nomark _) (op_eqP hr.units) sn_eq (pv 1) (rp_of re_str))
  (ss_one (s_ret (re_and (re_cmp (nomark _) (op_eqP hr.units) sn_eq (re_ixN (hu1 hr) rfl (pv 0) (rp_of (re_ixN (hu1 hr) rfl (pv 2) (rp_of re_int)))) (rp_of (re_ixN (hu1 hr) rfl (pv 0) (rp_of (re_ixN (hu1 hr) rfl (pv 2) (rp_of re_int)))))) (re_one (re_or (re_cmp (nomark _) (op_eqP hr.units) sn_eq (re_ixN (hu1 hr) rfl (pv 0) (rp_of (re_ixN (hu1 hr) rfl (pv 2) (rp_of re_int)))) (rp_of re_str)) (re_one (re_cmp (nomark _) (op_eqP hr.units) sn_eq (re_ixN (hu1 hr) rfl (pv 2) (rp_of re_int)) (rp_of re_int))) rfl)) rfl)))
  ss_nil)
  (ss_one (s_ret re_bl))))))
abbrev s_fits_columns : Stmt := top 41
abbrev n_fits_columns : List Str := ["columns", "test", "kinds", "name", "kind", "_", "atom"]
theorem sc_fits_columns : FnScope n_fits_columns ["columns", "test"] (defScope s_fits_columns) := ⟨rfl, rfl, rfl, by decide +kernel, rfl, by decide +kernel, by decide +kernel⟩
def q_fits_columns_1  : SM := (setO 2 dct0)
@[simp] theorem e_fits_columns_1  (ρ : Ev) : q_fits_columns_1  ρ = (setO 2 dct0) ρ := (rfl)
def q_fits_columns_3  : SM := (setIx 2 (getv 3) (getv 4))
@[simp] theorem e_fits_columns_3  (ρ : Ev) : q_fits_columns_3  ρ = (setIx 2 (getv 3) (getv 4)) ρ := (rfl)
def q_fits_columns_2  : SM := (frM (itV (getv 0)) (tgT [3, 4, 5])
  q_fits_columns_3)
@[simp] theorem e_fits_columns_2  (ρ : Ev) : q_fits_columns_2  ρ = (frM (itV (getv 0)) (tgT [3, 4, 5])
  q_fits_columns_3) ρ := (rfl)
def q_fits_columns_6  : SM := (retM (cst (.bl false)))
@[simp] theorem e_fits_columns_6  (ρ : Ev) : q_fits_columns_6  ρ = (retM (cst (.bl false))) ρ := (rfl)
def q_fits_columns_5  : SM := (ifM (asB (binN pyNotIn 3 (peek 2)))
  q_fits_columns_6
  skipM)
@[simp] theorem e_fits_columns_5  (ρ : Ev) : q_fits_columns_5  ρ = (ifM (asB (binN pyNotIn 3 (peek 2)))
  q_fits_columns_6
  skipM) ρ := (rfl)
def q_fits_columns_4  : SM := (frM (itV (mthE [(3, m_Test__names), (5, m_Shape__names)] "names" (selfN 1) argNil)) (tgN 3)
  q_fits_columns_5)
@[simp] theorem e_fits_columns_4  (ρ : Ev) : q_fits_columns_4  ρ = (frM (itV (mthE [(3, m_Test__names), (5, m_Shape__names)] "names" (selfN 1) argNil)) (tgN 3)
  q_fits_columns_5) ρ := (rfl)
def q_fits_columns_9  : SM := (retM (cst (.bl false)))
@[simp] theorem e_fits_columns_9  (ρ : Ev) : q_fits_columns_9  ρ = (retM (cst (.bl false))) ρ := (rfl)
def q_fits_columns_8  : SM := (ifM (notM (truM (callE m_atom_fits (argV (getv 2) (argV (mthE [(3, m_Test__kind)] "kind" (selfN 6) argNil) (argV (mthE [(3, m_Test__data)] "data" (selfN 6) argNil) argNil))))))
  q_fits_columns_9
  skipM)
@[simp] theorem e_fits_columns_8  (ρ : Ev) : q_fits_columns_8  ρ = (ifM (notM (truM (callE m_atom_fits (argV (getv 2) (argV (mthE [(3, m_Test__kind)] "kind" (selfN 6) argNil) (argV (mthE [(3, m_Test__data)] "data" (selfN 6) argNil) argNil))))))
  q_fits_columns_9
  skipM) ρ := (rfl)
def q_fits_columns_7  : SM := (frM (itV (mthE [(3, (m_Test__atoms 40))] "atoms" (selfN 1) argNil)) (tgN 6)
  q_fits_columns_8)
@[simp] theorem e_fits_columns_7  (ρ : Ev) : q_fits_columns_7  ρ = (frM (itV (mthE [(3, (m_Test__atoms 40))] "atoms" (selfN 1) argNil)) (tgN 6)
  q_fits_columns_8) ρ := (rfl)
def q_fits_columns_10  : SM := (retM (cst (.bl true)))
@[simp] theorem e_fits_columns_10  (ρ : Ev) : q_fits_columns_10  ρ = (retM (cst (.bl true))) ρ := (rfl)
def m_fits_columns : FM := fnB 2 7
  (seqM q_fits_columns_1
  (seqM q_fits_columns_2
  (seqM q_fits_columns_4
  (seqM q_fits_columns_7
  q_fits_columns_10))))
theorem em_fits_columns (as : List Slot) : m_fits_columns as = if as.length = 2 then fin 2 as ((seqM q_fits_columns_1
  (seqM q_fits_columns_2
  (seqM q_fits_columns_4
  (seqM q_fits_columns_7
  q_fits_columns_10)))) (enter 7 as)) else .stuck := ev_fn _ _ _ as
theorem ok_fits_columns {P : Program} {w : World} {K : PySem.W.Frag} {mg : Str → Option Value} {base : Heap} (B : BN K mg) (C_Shape__names : MtAt P w K mg base (DW K mg) 1 "names" 5 m_Shape__names) (C_Test__names : MtAt P w K mg base (DW K mg) 41 "names" 3 m_Test__names) (C_Test__atoms : MtAt P w K mg base (DW K mg) 40 "atoms" 3 (m_Test__atoms 40)) (C_atom_fits : FnAt P w K mg base (DW K mg) 4 "atom_fits" ["kinds", "kind", "data"] m_atom_fits) (C_Test__data : MtAt P w K mg base (DW K mg) 1 "data" 3 m_Test__data) (C_Test__kind : MtAt P w K mg base (DW K mg) 1 "kind" 3 m_Test__kind) (d : DefAt K mg "fits_columns" s_fits_columns ["columns", "test"]) : FnAt P w K mg base (DW K mg) 42 "fits_columns" ["columns", "test"] m_fits_columns :=
  fn_at d sc_fits_columns rfl (by decide) fun cdv A outer s H E hr tk =>
  (ss_cons (s_setO (i := 2) sc_fits_columns.nd rfl (by first | exact Or.inl rfl | exact Or.inr rfl) rn_dct0)
  (ss_cons (s_fr (passes_of rfl) rfl (ri_v rfl (re_var 0 (pv 0))) (pg_tup rfl (pgs_cons (pg_name (i := 3) sc_fits_columns.nd rfl (by first | exact Or.inl rfl | exact Or.inr rfl)) (pgs_cons (pg_name (i := 4) sc_fits_columns.nd rfl (by first | exact Or.inl rfl | exact Or.inr rfl)) (pgs_cons (pg_name (i := 5) sc_fits_columns.nd rfl (by first | exact Or.inl rfl | exact Or.inr rfl)) pgs_nil)))) (vs := [3, 4, 5]) (tgx_tup (.cons (.cons (.cons .nil))) (by decide))
  (ss_one (s_setIx (i := 2) (hu1 hr) (pv 2) (re_var 3 (pv 3)) (re_var 4 (pv 4)))))
  (ss_cons (s_fr (passes_of rfl) rfl (ri_v rfl (re_mth0 (tbl_cons (C_Test__names.mono (by omega)) (tbl_cons (C_Shape__names.mono (by omega)) tbl_nil)) hr tk (rs_n 1 (pv 1)))) (pg_name (i := 3) sc_fits_columns.nd rfl (by first | exact Or.inl rfl | exact Or.inr rfl)) (vs := [3]) (tgx_name (by decide))
  (ss_one (s_if (rb_cmpN rfl (op_notInP (hu65 hr)) sn_notIn (pv 3) (rp_var 2 (pv 2)))
  (ss_one (s_ret re_bl))
  ss_nil)))
  (ss_cons (s_fr (passes_of rfl) rfl (ri_v rfl (re_mth0 (tbl_cons (C_Test__atoms.mono (by omega)) tbl_nil) hr tk (rs_n 1 (pv 1)))) (pg_name (i := 6) sc_fits_columns.nd rfl (by first | exact Or.inl rfl | exact Or.inr rfl)) (vs := [6]) (tgx_name (by decide))
  (ss_one (s_if (rb_not (rb_truth (rp_of (re_callA C_atom_fits (hr.mono (by omega)) tk (ra_v (re_var 2 (pv 2)) (ra_v (re_mth0 (tbl_cons (C_Test__kind.mono (by omega)) tbl_nil) hr tk (rs_n 6 (pv 6))) (ra_v (re_mth0 (tbl_cons (C_Test__data.mono (by omega)) tbl_nil) hr tk (rs_n 6 (pv 6))) ra_nil))))) rfl))
  (ss_one (s_ret re_bl))
  ss_nil)))
  (ss_one (s_ret re_bl))))))
abbrev s_read_checks : Stmt := top 38
abbrev n_read_checks : List Str := ["columns", "checks", "at", "test"]
theorem sc_read_checks : FnScope n_read_checks ["columns", "checks"] (defScope s_read_checks) := ⟨rfl, rfl, rfl, by decide +kernel, rfl, by decide +kernel, by decide +kernel⟩
def q_read_checks_2  : SM := (raiseM 21 ["why", "at"] (argV (cst (.str "checks")) (argV (un pyNeg (cst (.int 1))) argNil)))
@[simp] theorem e_read_checks_2  (ρ : Ev) : q_read_checks_2  ρ = (raiseM 21 ["why", "at"] (argV (cst (.str "checks")) (argV (un pyNeg (cst (.int 1))) argNil))) ρ := (rfl)
def q_read_checks_1  : SM := (ifM (orM (notM (truM (callE m_is_sequence (argV (getv 1) argNil)))) (asB (bin pyGt (callB bLen (argN 1 argNil)) (cst (.int 9)))))
  q_read_checks_2
  skipM)
@[simp] theorem e_read_checks_1  (ρ : Ev) : q_read_checks_1  ρ = (ifM (orM (notM (truM (callE m_is_sequence (argV (getv 1) argNil)))) (asB (bin pyGt (callB bLen (argN 1 argNil)) (cst (.int 9)))))
  q_read_checks_2
  skipM) ρ := (rfl)
def q_read_checks_5  : SM := (raiseM 21 ["why", "at"] (argV (cst (.str "checks")) (argV (getv 2) argNil)))
@[simp] theorem e_read_checks_5  (ρ : Ev) : q_read_checks_5  ρ = (raiseM 21 ["why", "at"] (argV (cst (.str "checks")) (argV (getv 2) argNil))) ρ := (rfl)
def q_read_checks_4  : SM := (ifM (orM (notM (truM (isCM (peek 3) [3]))) (notM (truM (callE m_fits_columns (argV (getv 0) (argV (getv 3) argNil))))))
  q_read_checks_5
  skipM)
@[simp] theorem e_read_checks_4  (ρ : Ev) : q_read_checks_4  ρ = (ifM (orM (notM (truM (isCM (peek 3) [3]))) (notM (truM (callE m_fits_columns (argV (getv 0) (argV (getv 3) argNil))))))
  q_read_checks_5
  skipM) ρ := (rfl)
def q_read_checks_3  : SM := (frM (itEn (getv 1)) (tgT [2, 3])
  q_read_checks_4)
@[simp] theorem e_read_checks_3  (ρ : Ev) : q_read_checks_3  ρ = (frM (itEn (getv 1)) (tgT [2, 3])
  q_read_checks_4) ρ := (rfl)
def q_read_checks_6  : SM := (retM (callB bTup (argN 1 argNil)))
@[simp] theorem e_read_checks_6  (ρ : Ev) : q_read_checks_6  ρ = (retM (callB bTup (argN 1 argNil))) ρ := (rfl)
def m_read_checks : FM := fnB 2 4
  (seqM q_read_checks_1
  (seqM q_read_checks_3
  q_read_checks_6))
theorem em_read_checks (as : List Slot) : m_read_checks as = if as.length = 2 then fin 2 as ((seqM q_read_checks_1
  (seqM q_read_checks_3
  q_read_checks_6)) (enter 4 as)) else .stuck := ev_fn _ _ _ as
theorem ok_read_checks {P : Program} {w : World} {K : PySem.W.Frag} {mg : Str → Option Value} {base : Heap} (B : BN K mg) (C_is_sequence : FnAt P w K mg base (DW K mg) 1 "is_sequence" ["thing"] m_is_sequence) (C_BadShape____init__ : XcAt P w K mg base (DW K mg) 1 21 "BadShape" ["why", "at"]) (C_fits_columns : FnAt P w K mg base (DW K mg) 42 "fits_columns" ["columns", "test"] m_fits_columns) (d : DefAt K mg "read_checks" s_read_checks ["columns", "checks"]) : FnAt P w K mg base (DW K mg) 44 "read_checks" ["columns", "checks"] m_read_checks :=
  fn_at d sc_read_checks rfl (by decide) fun cdv A outer s H E hr tk =>
  (ss_cons (s_if (rb_w (rw_or (rb_not (rb_truth (rp_of (re_callA C_is_sequence (hr.mono (by omega)) tk (ra_v (re_var 1 (pv 1)) ra_nil))) rfl)) (rw_or1 (rb_cmp (nomark _) op_gtP sn_gt (re_len rfl (hg := rfl) (hm := B.b_len) (ha := (ra_n 1 (pv 1) ra_nil))) (rp_of (re_glob B.g_MOST_RULES))))))
  (ss_one (s_raise C_BadShape____init__ (by simp) (hr.mono (by omega)) tk (ra_v re_str (ra_v (re_neg re_int) ra_nil))))
  ss_nil)
  (ss_cons (s_fr (passes_of rfl) rfl (ri_en rfl B.b_enumerate (re_var 1 (pv 1))) (pg_tup rfl (pgs_cons (pg_name (i := 2) sc_read_checks.nd rfl (by first | exact Or.inl rfl | exact Or.inr rfl)) (pgs_cons (pg_name (i := 3) sc_read_checks.nd rfl (by first | exact Or.inl rfl | exact Or.inr rfl)) pgs_nil))) (vs := [2, 3]) (tgx_tup (.cons (.cons .nil)) (by decide))
  (ss_one (s_if (rb_w (rw_or (rb_not (rb_truth (rp_of (re_isc B.hT B.i_Test rfl (rp_var 3 (pv 3)) rfl B.b_isinstance)) rfl)) (rw_or1 (rb_not (rb_truth (rp_of (re_callA C_fits_columns (hr.mono (by omega)) tk (ra_v (re_var 0 (pv 0)) (ra_v (re_var 3 (pv 3)) ra_nil)))) rfl)))))
  (ss_one (s_raise C_BadShape____init__ (by simp) (hr.mono (by omega)) tk (ra_v re_str (ra_v (re_var 2 (pv 2)) ra_nil))))
  ss_nil)))
  (ss_one (s_ret (re_tup1 (hK := rfl) (hg := rfl) (hm := B.b_tuple) (ha := (ra_n 1 (pv 1) ra_nil)))))))
abbrev s_once : Stmt := top 19
abbrev n_once : List Str := ["items", "result", "item"]
theorem sc_once : FnScope n_once ["items"] (defScope s_once) := ⟨rfl, rfl, rfl, by decide +kernel, rfl, by decide +kernel, by decide +kernel⟩
def q_once_1  : SM := (setO 1 (lstM argNil))
@[simp] theorem e_once_1  (ρ : Ev) : q_once_1  ρ = (setO 1 (lstM argNil)) ρ := (rfl)
def q_once_4  : SM := (exprM (methM lAppend 1 (argV (getv 2) argNil)))
@[simp] theorem e_once_4  (ρ : Ev) : q_once_4  ρ = (exprM (methM lAppend 1 (argV (getv 2) argNil))) ρ := (rfl)
def q_once_3  : SM := (ifM (asB (binN pyNotIn 2 (peek 1)))
  q_once_4
  skipM)
@[simp] theorem e_once_3  (ρ : Ev) : q_once_3  ρ = (ifM (asB (binN pyNotIn 2 (peek 1)))
  q_once_4
  skipM) ρ := (rfl)
def q_once_2  : SM := (frM (itV (getv 0)) (tgN 2)
  q_once_3)
@[simp] theorem e_once_2  (ρ : Ev) : q_once_2  ρ = (frM (itV (getv 0)) (tgN 2)
  q_once_3) ρ := (rfl)
def q_once_5  : SM := (retV 1)
@[simp] theorem e_once_5  (ρ : Ev) : q_once_5  ρ = (retV 1) ρ := (rfl)
def m_once : FM := fnB 1 3
  (seqM q_once_1
  (seqM q_once_2
  q_once_5))
theorem em_once (as : List Slot) : m_once as = if as.length = 1 then fin 1 as ((seqM q_once_1
  (seqM q_once_2
  q_once_5)) (enter 3 as)) else .stuck := ev_fn _ _ _ as
theorem ok_once {P : Program} {w : World} {K : PySem.W.Frag} {mg : Str → Option Value} {base : Heap} (B : BN K mg) (d : DefAt K mg "once" s_once ["items"]) : FnAt P w K mg base (DW K mg) 1 "once" ["items"] m_once :=
  fn_at d sc_once rfl (by decide) fun cdv A outer s H E hr tk =>
  (ss_cons (s_setO (i := 1) sc_once.nd rfl (by first | exact Or.inl rfl | exact Or.inr rfl) (rn_lst ra_nil))
  (ss_cons (s_fr (passes_of rfl) rfl (ri_v rfl (re_var 0 (pv 0))) (pg_name (i := 2) sc_once.nd rfl (by first | exact Or.inl rfl | exact Or.inr rfl)) (vs := [2]) (tgx_name (by decide))
  (ss_one (s_if (rb_cmpN rfl (op_notInP (hu65 hr)) sn_notIn (pv 2) (rp_var 1 (pv 1)))
  (ss_one (s_expr (re_lm PySem.F.slot_list_append PySem.F.type_list_append mt_append sn_append rfl (pv 1) (ra_v (re_var 2 (pv 2)) ra_nil))))
  ss_nil)))
  (ss_one (s_retV 1 (pv 1)))))
abbrev s_is_key : Stmt := top 40
abbrev n_is_key : List Str := ["columns", "thing", "names", "column", "name"]
theorem sc_is_key : FnScope n_is_key ["columns", "thing"] (defScope s_is_key) := ⟨rfl, rfl, rfl, by decide +kernel, rfl, by decide +kernel, by decide +kernel⟩
def q_is_key_2  : SM := (retM (cst (.bl false)))
@[simp] theorem e_is_key_2  (ρ : Ev) : q_is_key_2  ρ = (retM (cst (.bl false))) ρ := (rfl)
def q_is_key_1  : SM := (ifM (orM (notM (truM (callE m_is_sequence (argV (getv 1) argNil)))) (asB (bin pyNe (callB bLen (argN 1 argNil)) (cst (.int 2)))))
  q_is_key_2
  skipM)
@[simp] theorem e_is_key_1  (ρ : Ev) : q_is_key_1  ρ = (ifM (orM (notM (truM (callE m_is_sequence (argV (getv 1) argNil)))) (asB (bin pyNe (callB bLen (argN 1 argNil)) (cst (.int 2)))))
  q_is_key_2
  skipM) ρ := (rfl)
def q_is_key_4  : SM := (retM (cst (.bl false)))
@[simp] theorem e_is_key_4  (ρ : Ev) : q_is_key_4  ρ = (retM (cst (.bl false))) ρ := (rfl)
def q_is_key_3  : SM := (ifM (orM (notM (truM (callE m_is_sequence (argV (binN pyIx 1 (cst (.int 0))) argNil)))) (orM (notM (asB (chn pyLe pyLe (cst (.int 1)) (callB bLen (argV (binN pyIx 1 (cst (.int 0))) argNil)) (cst (.int 3))))) (asB (bin pyNe (callB bLen (argV (callE m_once (argV (binN pyIx 1 (cst (.int 0))) argNil)) argNil)) (callB bLen (argV (binN pyIx 1 (cst (.int 0))) argNil))))))
  q_is_key_4
  skipM)
@[simp] theorem e_is_key_3  (ρ : Ev) : q_is_key_3  ρ = (ifM (orM (notM (truM (callE m_is_sequence (argV (binN pyIx 1 (cst (.int 0))) argNil)))) (orM (notM (asB (chn pyLe pyLe (cst (.int 1)) (callB bLen (argV (binN pyIx 1 (cst (.int 0))) argNil)) (cst (.int 3))))) (asB (bin pyNe (callB bLen (argV (callE m_once (argV (binN pyIx 1 (cst (.int 0))) argNil)) argNil)) (callB bLen (argV (binN pyIx 1 (cst (.int 0))) argNil))))))
  q_is_key_4
  skipM) ρ := (rfl)
def q_is_key_5  : SM := (setO 2 (cmpM [3] (itV (getv 0)) (tgN 3) noT (binN pyIx 3 (cst (.int 0)))))
@[simp] theorem e_is_key_5  (ρ : Ev) : q_is_key_5  ρ = (setO 2 (cmpM [3] (itV (getv 0)) (tgN 3) noT (binN pyIx 3 (cst (.int 0))))) ρ := (rfl)
def q_is_key_8  : SM := (retM (cst (.bl false)))
@[simp] theorem e_is_key_8  (ρ : Ev) : q_is_key_8  ρ = (retM (cst (.bl false))) ρ := (rfl)
def q_is_key_7  : SM := (ifM (orM (notM (truM (isM (peek 4) .str))) (asB (binN pyNotIn 4 (peek 2))))
  q_is_key_8
  skipM)
@[simp] theorem e_is_key_7  (ρ : Ev) : q_is_key_7  ρ = (ifM (orM (notM (truM (isM (peek 4) .str))) (asB (binN pyNotIn 4 (peek 2))))
  q_is_key_8
  skipM) ρ := (rfl)
def q_is_key_6  : SM := (frM (itV (binN pyIx 1 (cst (.int 0)))) (tgN 4)
  q_is_key_7)
@[simp] theorem e_is_key_6  (ρ : Ev) : q_is_key_6  ρ = (frM (itV (binN pyIx 1 (cst (.int 0)))) (tgN 4)
  q_is_key_7) ρ := (rfl)
def q_is_key_10  : SM := (retM (cst (.bl true)))
@[simp] theorem e_is_key_10  (ρ : Ev) : q_is_key_10  ρ = (retM (cst (.bl true))) ρ := (rfl)
def q_is_key_9  : SM := (ifM (asB (bin pyIs (binN pyIx 1 (cst (.int 1))) (cst .non)))
  q_is_key_10
  skipM)
@[simp] theorem e_is_key_9  (ρ : Ev) : q_is_key_9  ρ = (ifM (asB (bin pyIs (binN pyIx 1 (cst (.int 1))) (cst .non)))
  q_is_key_10
  skipM) ρ := (rfl)
def q_is_key_11  : SM := (retM (andV' (isCM (binN pyIx 1 (cst (.int 1))) [3]) (callE m_fits_columns (argV (getv 0) (argV (binN pyIx 1 (cst (.int 1))) argNil)))))
@[simp] theorem e_is_key_11  (ρ : Ev) : q_is_key_11  ρ = (retM (andV' (isCM (binN pyIx 1 (cst (.int 1))) [3]) (callE m_fits_columns (argV (getv 0) (argV (binN pyIx 1 (cst (.int 1))) argNil))))) ρ := (rfl)
def m_is_key : FM := fnB 2 5
  (seqM q_is_key_1
  (seqM q_is_key_3
  (seqM q_is_key_5
  (seqM q_is_key_6
  (seqM q_is_key_9
  q_is_key_11)))))
theorem em_is_key (as : List Slot) : m_is_key as = if as.length = 2 then fin 2 as ((seqM q_is_key_1
  (seqM q_is_key_3
  (seqM q_is_key_5
  (seqM q_is_key_6
  (seqM q_is_key_9
  q_is_key_11))))) (enter 5 as)) else .stuck := ev_fn _ _ _ as
theorem ok_is_key {P : Program} {w : World} {K : PySem.W.Frag} {mg : Str → Option Value} {base : Heap} (B : BN K mg) (C_is_sequence : FnAt P w K mg base (DW K mg) 1 "is_sequence" ["thing"] m_is_sequence) (C_once : FnAt P w K mg base (DW K mg) 1 "once" ["items"] m_once) (C_fits_columns : FnAt P w K mg base (DW K mg) 42 "fits_columns" ["columns", "test"] m_fits_columns) (d : DefAt K mg "is_key" s_is_key ["columns", "thing"]) : FnAt P w K mg base (DW K mg) 43 "is_key" ["columns", "thing"] m_is_key :=
  fn_at d sc_is_key rfl (by decide) fun cdv A outer s H E hr tk =>
  (ss_cons (s_if (rb_w (rw_or (rb_not (rb_truth (rp_of (re_callA C_is_sequence (hr.mono (by omega)) tk (ra_v (re_var 1 (pv 1)) ra_nil))) rfl)) (rw_or1 (rb_cmp (nomark _) (op_neP hr.units) sn_ne (re_len rfl (hg := rfl) (hm := B.b_len) (ha := (ra_n 1 (pv 1) ra_nil))) (rp_of re_int)))))
  (ss_one (s_ret re_bl))
  ss_nil)
  (ss_cons (s_if (rb_w (rw_or (rb_not (rb_truth (rp_of (re_callA C_is_sequence (hr.mono (by omega)) tk (ra_v (re_ixN (hu1 hr) rfl (pv 1) (rp_of re_int)) ra_nil))) rfl)) (rw_or (rb_not (rb_chain op_leP op_leP sn_le sn_le re_int (re_len rfl (hg := rfl) (hm := B.b_len) (ha := (ra_v (re_ixN (hu1 hr) rfl (pv 1) (rp_of re_int)) ra_nil))) (rp_of re_int))) (rw_or1 (rb_cmp (nomark _) (op_neP hr.units) sn_ne (re_len rfl (hg := rfl) (hm := B.b_len) (ha := (ra_v (re_callA C_once (hr.mono (by omega)) tk (ra_v (re_ixN (hu1 hr) rfl (pv 1) (rp_of re_int)) ra_nil)) ra_nil))) (rp_of (re_len rfl (hg := rfl) (hm := B.b_len) (ha := (ra_v (re_ixN (hu1 hr) rfl (pv 1) (rp_of re_int)) ra_nil)))))))))
  (ss_one (s_ret re_bl))
  ss_nil)
  (ss_cons (s_setLc (i := 2) (hy := rfl) (hyl := rfl) (hsw := sw_true rfl rfl rfl (by decide +kernel)) (own := [("column", 3)]) (tg := (tgN 3)) (hc := rfl) (hN := sc_is_key.nd) (ok := blkOk_by (N := n_is_key) (sc := defScope s_is_key) (by decide +kernel)) (hi := (ri_v rfl (re_var 0 (pv 0)))) (hg := fun _ _ _ _ _ => (pg_name (i := 3) sc_is_key.nd rfl (by first | exact Or.inl rfl | exact Or.inr rfl))) (ht := fun _ _ _ _ _ => pts_no) (he := fun _ _ _ _ _ => (re_ixN (hu1 hr) rfl (pv 3) (rp_of re_int))) (tk := (tgx_name (by decide))))
  (ss_cons (s_fr (passes_of rfl) rfl (ri_v rfl (re_ixN (hu1 hr) rfl (pv 1) (rp_of re_int))) (pg_name (i := 4) sc_is_key.nd rfl (by first | exact Or.inl rfl | exact Or.inr rfl)) (vs := [4]) (tgx_name (by decide))
  (ss_one (s_if (rb_w (rw_or (rb_not (rb_truth (rp_of (re_isi B.hT .str rfl (rp_var 4 (pv 4)) rfl B.b_isinstance rfl B.b_str PyProof.Rows.boot_str)) rfl)) (rw_or1 (rb_cmpN rfl (op_notInP (hu65 hr)) sn_notIn (pv 4) (rp_var 2 (pv 2))))))
  (ss_one (s_ret re_bl))
  ss_nil)))
  (ss_cons (s_if (rb_cmp (nomark _) op_isP sn_is (re_ixN (hu1 hr) rfl (pv 1) (rp_of re_int)) (rp_of re_non))
  (ss_one (s_ret re_bl))
  ss_nil)
  (ss_one (s_ret (re_and (re_isc B.hT B.i_Test rfl (rp_of (re_ixN (hu1 hr) rfl (pv 1) (rp_of re_int))) rfl B.b_isinstance) (re_one (re_callA C_fits_columns (hr.mono (by omega)) tk (ra_v (re_var 0 (pv 0)) (ra_v (re_ixN (hu1 hr) rfl (pv 1) (rp_of re_int)) ra_nil)))) rfl))))))))
abbrev s_read_keys : Stmt := top 39
abbrev n_read_keys : List Str := ["columns", "keys", "result", "at", "key"]
theorem sc_read_keys : FnScope n_read_keys ["columns", "keys"] (defScope s_read_keys) := ⟨rfl, rfl, rfl, by decide +kernel, rfl, by decide +kernel, by decide +kernel⟩
def q_read_keys_2  : SM := (raiseM 21 ["why", "at"] (argV (cst (.str "keys")) (argV (un pyNeg (cst (.int 1))) argNil)))
@[simp] theorem e_read_keys_2  (ρ : Ev) : q_read_keys_2  ρ = (raiseM 21 ["why", "at"] (argV (cst (.str "keys")) (argV (un pyNeg (cst (.int 1))) argNil))) ρ := (rfl)
def q_read_keys_1  : SM := (ifM (orM (notM (truM (callE m_is_sequence (argV (getv 1) argNil)))) (asB (bin pyGt (callB bLen (argN 1 argNil)) (cst (.int 9)))))
  q_read_keys_2
  skipM)
@[simp] theorem e_read_keys_1  (ρ : Ev) : q_read_keys_1  ρ = (ifM (orM (notM (truM (callE m_is_sequence (argV (getv 1) argNil)))) (asB (bin pyGt (callB bLen (argN 1 argNil)) (cst (.int 9)))))
  q_read_keys_2
  skipM) ρ := (rfl)
def q_read_keys_3  : SM := (setO 2 (lstM argNil))
@[simp] theorem e_read_keys_3  (ρ : Ev) : q_read_keys_3  ρ = (setO 2 (lstM argNil)) ρ := (rfl)
def q_read_keys_6  : SM := (raiseM 21 ["why", "at"] (argV (cst (.str "keys")) (argV (getv 3) argNil)))
@[simp] theorem e_read_keys_6  (ρ : Ev) : q_read_keys_6  ρ = (raiseM 21 ["why", "at"] (argV (cst (.str "keys")) (argV (getv 3) argNil))) ρ := (rfl)
def q_read_keys_5  : SM := (ifM (notM (truM (callE m_is_key (argV (getv 0) (argV (getv 4) argNil)))))
  q_read_keys_6
  skipM)
@[simp] theorem e_read_keys_5  (ρ : Ev) : q_read_keys_5  ρ = (ifM (notM (truM (callE m_is_key (argV (getv 0) (argV (getv 4) argNil)))))
  q_read_keys_6
  skipM) ρ := (rfl)
def q_read_keys_7  : SM := (exprM (methM lAppend 2 (argV (tupM (argV (callB bTup (argV (binN pyIx 4 (cst (.int 0))) argNil)) (argV (binN pyIx 4 (cst (.int 1))) argNil))) argNil)))
@[simp] theorem e_read_keys_7  (ρ : Ev) : q_read_keys_7  ρ = (exprM (methM lAppend 2 (argV (tupM (argV (callB bTup (argV (binN pyIx 4 (cst (.int 0))) argNil)) (argV (binN pyIx 4 (cst (.int 1))) argNil))) argNil))) ρ := (rfl)
def q_read_keys_4  : SM := (frM (itEn (getv 1)) (tgT [3, 4])
  (seqM q_read_keys_5
  q_read_keys_7))
@[simp] theorem e_read_keys_4  (ρ : Ev) : q_read_keys_4  ρ = (frM (itEn (getv 1)) (tgT [3, 4])
  (seqM q_read_keys_5
  q_read_keys_7)) ρ := (rfl)
def q_read_keys_8  : SM := (retM (callB bTup (argN 2 argNil)))
@[simp] theorem e_read_keys_8  (ρ : Ev) : q_read_keys_8  ρ = (retM (callB bTup (argN 2 argNil))) ρ := (rfl)
def m_read_keys : FM := fnB 2 5
  (seqM q_read_keys_1
  (seqM q_read_keys_3
  (seqM q_read_keys_4
  q_read_keys_8)))
theorem em_read_keys (as : List Slot) : m_read_keys as = if as.length = 2 then fin 2 as ((seqM q_read_keys_1
  (seqM q_read_keys_3
  (seqM q_read_keys_4
  q_read_keys_8))) (enter 5 as)) else .stuck := ev_fn _ _ _ as
theorem ok_read_keys {P : Program} {w : World} {K : PySem.W.Frag} {mg : Str → Option Value} {base : Heap} (B : BN K mg) (C_is_sequence : FnAt P w K mg base (DW K mg) 1 "is_sequence" ["thing"] m_is_sequence) (C_BadShape____init__ : XcAt P w K mg base (DW K mg) 1 21 "BadShape" ["why", "at"]) (C_is_key : FnAt P w K mg base (DW K mg) 43 "is_key" ["columns", "thing"] m_is_key) (d : DefAt K mg "read_keys" s_read_keys ["columns", "keys"]) : FnAt P w K mg base (DW K mg) 45 "read_keys" ["columns", "keys"] m_read_keys :=
  fn_at d sc_read_keys rfl (by decide) fun cdv A outer s H E hr tk =>
  (ss_cons (s_if (rb_w (rw_or (rb_not (rb_truth (rp_of (re_callA C_is_sequence (hr.mono (by omega)) tk (ra_v (re_var 1 (pv 1)) ra_nil))) rfl)) (rw_or1 (rb_cmp (nomark _) op_gtP sn_gt (re_len rfl (hg := rfl) (hm := B.b_len) (ha := (ra_n 1 (pv 1) ra_nil))) (rp_of (re_glob B.g_MOST_RULES))))))
  (ss_one (s_raise C_BadShape____init__ (by simp) (hr.mono (by omega)) tk (ra_v re_str (ra_v (re_neg re_int) ra_nil))))
  ss_nil)
  (ss_cons (s_setO (i := 2) sc_read_keys.nd rfl (by first | exact Or.inl rfl | exact Or.inr rfl) (rn_lst ra_nil))
  (ss_cons (s_fr (passes_of rfl) rfl (ri_en rfl B.b_enumerate (re_var 1 (pv 1))) (pg_tup rfl (pgs_cons (pg_name (i := 3) sc_read_keys.nd rfl (by first | exact Or.inl rfl | exact Or.inr rfl)) (pgs_cons (pg_name (i := 4) sc_read_keys.nd rfl (by first | exact Or.inl rfl | exact Or.inr rfl)) pgs_nil))) (vs := [3, 4]) (tgx_tup (.cons (.cons .nil)) (by decide))
  (ss_cons (s_if (rb_not (rb_truth (rp_of (re_callA C_is_key (hr.mono (by omega)) tk (ra_v (re_var 0 (pv 0)) (ra_v (re_var 4 (pv 4)) ra_nil)))) rfl))
  (ss_one (s_raise C_BadShape____init__ (by simp) (hr.mono (by omega)) tk (ra_v re_str (ra_v (re_var 3 (pv 3)) ra_nil))))
  ss_nil)
  (ss_one (s_expr (re_lm PySem.F.slot_list_append PySem.F.type_list_append mt_append sn_append rfl (pv 2) (ra_v (re_tup (ra_v (re_tup1 (hK := rfl) (hg := rfl) (hm := B.b_tuple) (ha := (ra_v (re_ixN (hu1 hr) rfl (pv 4) (rp_of re_int)) ra_nil))) (ra_v (re_ixN (hu1 hr) rfl (pv 4) (rp_of re_int)) ra_nil))) ra_nil))))))
  (ss_one (s_ret (re_tup1 (hK := rfl) (hg := rfl) (hm := B.b_tuple) (ha := (ra_n 2 (pv 2) ra_nil))))))))
abbrev s_Shape____init__ : Stmt := inCls (top 34) 0
abbrev n_Shape____init__ : List Str := ["self", "columns", "checks", "keys"]
theorem sc_Shape____init__ : FnScope n_Shape____init__ ["self", "columns", "checks", "keys"] (defScope s_Shape____init__) := ⟨rfl, rfl, rfl, by decide +kernel, rfl, by decide +kernel, by decide +kernel⟩
def q_Shape____init___1  : SM := (setFld 0 [5] "_columns" (callE m_read_columns (argV (getv 1) argNil)))
@[simp] theorem e_Shape____init___1  (ρ : Ev) : q_Shape____init___1  ρ = (setFld 0 [5] "_columns" (callE m_read_columns (argV (getv 1) argNil))) ρ := (rfl)
def q_Shape____init___2  : SM := (setFld 0 [5] "_checks" (callE m_read_checks (argV (fldM [5] "_columns" (peek 0)) (argV (getv 2) argNil))))
@[simp] theorem e_Shape____init___2  (ρ : Ev) : q_Shape____init___2  ρ = (setFld 0 [5] "_checks" (callE m_read_checks (argV (fldM [5] "_columns" (peek 0)) (argV (getv 2) argNil)))) ρ := (rfl)
def q_Shape____init___3  : SM := (setFld 0 [5] "_unique" (callE m_read_keys (argV (fldM [5] "_columns" (peek 0)) (argV (getv 3) argNil))))
@[simp] theorem e_Shape____init___3  (ρ : Ev) : q_Shape____init___3  ρ = (setFld 0 [5] "_unique" (callE m_read_keys (argV (fldM [5] "_columns" (peek 0)) (argV (getv 3) argNil)))) ρ := (rfl)
def m_Shape____init__ : FM := fnB 4 4
  (seqM q_Shape____init___1
  (seqM q_Shape____init___2
  q_Shape____init___3))
theorem em_Shape____init__ (as : List Slot) : m_Shape____init__ as = if as.length = 4 then fin 4 as ((seqM q_Shape____init___1
  (seqM q_Shape____init___2
  q_Shape____init___3)) (enter 4 as)) else .stuck := ev_fn _ _ _ as
theorem ok_Shape____init__ {P : Program} {w : World} {K : PySem.W.Frag} {mg : Str → Option Value} {base : Heap} (B : BN K mg) (C_read_columns : FnAt P w K mg base (DW K mg) 4 "read_columns" ["columns"] m_read_columns) (C_read_checks : FnAt P w K mg base (DW K mg) 44 "read_checks" ["columns", "checks"] m_read_checks) (C_read_keys : FnAt P w K mg base (DW K mg) 45 "read_keys" ["columns", "keys"] m_read_keys) (d : DefMkK K mg (DW K mg) 5 "Shape" "Shape.__init__" s_Shape____init__ ["self", "columns", "checks", "keys"] [⟨1, [], [.at 0, .df 0 (.tup []), .df 1 (.tup [])]⟩]) : MkAtK P w K mg base (DW K mg) 46 5 "Shape" [⟨1, [], [.at 0, .df 0 (.tup []), .df 1 (.tup [])]⟩] m_Shape____init__ :=
  mkK_at d sc_Shape____init__ rfl (by decide) fun cdv A outer s H E hr tk =>
  (ss_cons (s_fld (i := 0) rfl (pv 0) (cfs_cons B.f_5__columns cfs_nil) (re_callA C_read_columns (hr.mono (by omega)) tk (ra_v (re_var 1 (pv 1)) ra_nil)))
  (ss_cons (s_fld (i := 0) rfl (pv 0) (cfs_cons B.f_5__checks cfs_nil) (re_callA C_read_checks (hr.mono (by omega)) tk (ra_v (re_fld rfl (rp_var 0 (pv 0)) (cfs_cons B.f_5__columns cfs_nil)) (ra_v (re_var 2 (pv 2)) ra_nil))))
  (ss_one (s_fld (i := 0) rfl (pv 0) (cfs_cons B.f_5__unique cfs_nil) (re_callA C_read_keys (hr.mono (by omega)) tk (ra_v (re_fld rfl (rp_var 0 (pv 0)) (cfs_cons B.f_5__columns cfs_nil)) (ra_v (re_var 3 (pv 3)) ra_nil)))))))
abbrev s__law_shape_or_error : Stmt := top 52
abbrev n__law_shape_or_error : List Str := ["_law_columns", "_law_shape", "e"]
theorem sc__law_shape_or_error : FnScope n__law_shape_or_error ["_law_columns"] (defScope s__law_shape_or_error) := ⟨rfl, rfl, rfl, by decide +kernel, rfl, by decide +kernel, by decide +kernel⟩
def q__law_shape_or_error_2  : SM := (setM 1 (frz (mkK 5 m_Shape____init__ 1 0 [.at 0, .df 0 (.tup []), .df 1 (.tup [])] (argV (getv 0) argNil) argNil)))
@[simp] theorem e__law_shape_or_error_2  (ρ : Ev) : q__law_shape_or_error_2  ρ = (setM 1 (frz (mkK 5 m_Shape____init__ 1 0 [.at 0, .df 0 (.tup []), .df 1 (.tup [])] (argV (getv 0) argNil) argNil))) ρ := (rfl)
def q__law_shape_or_error_3  : SM := (retM (tupM (argV (cst .non) (argV (xfld 2 "why") (argV (xfld 2 "at") (argV (andV' (xisM 2 [21, 22]) (un pyNot (xisM 2 [22]))) argNil))))))
@[simp] theorem e__law_shape_or_error_3  (ρ : Ev) : q__law_shape_or_error_3  ρ = (retM (tupM (argV (cst .non) (argV (xfld 2 "why") (argV (xfld 2 "at") (argV (andV' (xisM 2 [21, 22]) (un pyNot (xisM 2 [22]))) argNil)))))) ρ := (rfl)
def q__law_shape_or_error_1  : SM := (tryAs q__law_shape_or_error_2 [21] 2 q__law_shape_or_error_3)
@[simp] theorem e__law_shape_or_error_1  (ρ : Ev) : q__law_shape_or_error_1  ρ = (tryAs q__law_shape_or_error_2 [21] 2 q__law_shape_or_error_3) ρ := (rfl)
def q__law_shape_or_error_4  : SM := (retM (tupM (argV (getv 1) (argV (cst (.str "")) (argV (cst (.int 0)) (argV (cst (.bl true)) argNil))))))
@[simp] theorem e__law_shape_or_error_4  (ρ : Ev) : q__law_shape_or_error_4  ρ = (retM (tupM (argV (getv 1) (argV (cst (.str "")) (argV (cst (.int 0)) (argV (cst (.bl true)) argNil)))))) ρ := (rfl)
def m__law_shape_or_error : FM := fnB 1 3
  (seqM q__law_shape_or_error_1
  q__law_shape_or_error_4)
theorem em__law_shape_or_error (as : List Slot) : m__law_shape_or_error as = if as.length = 1 then fin 1 as ((seqM q__law_shape_or_error_1
  q__law_shape_or_error_4) (enter 3 as)) else .stuck := ev_fn _ _ _ as
theorem ok__law_shape_or_error {P : Program} {w : World} {K : PySem.W.Frag} {mg : Str → Option Value} {base : Heap} (B : BN K mg) (C_Shape____init__ : MkAtK P w K mg base (DW K mg) 46 5 "Shape" [⟨1, [], [.at 0, .df 0 (.tup []), .df 1 (.tup [])]⟩] m_Shape____init__) (d : DefAt K mg "_law_shape_or_error" s__law_shape_or_error ["_law_columns"]) : FnAt P w K mg base (DW K mg) 48 "_law_shape_or_error" ["_law_columns"] m__law_shape_or_error :=
  fn_at d sc__law_shape_or_error rfl (by decide) fun cdv A outer s H E hr tk =>
  (ss_cons (s_tryAs (i := 2) B.c_BadShape rfl tk (fun _ _ _ tk1 po1 =>
  (ss_one (s_set (i := 1) sc__law_shape_or_error.nd rfl (by first | exact Or.inl rfl | exact Or.inr rfl) (re_frz (rn_mkK (sh := ⟨1, [], [.at 0, .df 0 (.tup []), .df 1 (.tup [])]⟩) C_Shape____init__ (by simp) (hr.mono (by omega)) tk1 (ra_v (re_var 0 (pv 0)) ra_nil) rk_nil))))) (fun _ _ _ _ _ hz1 hd1 =>
  (ss_one (s_ret (re_tup (ra_v re_non (ra_v (re_xf B.x_why rfl hz1 hd1 (pv 2)) (ra_v (re_xf B.x_at rfl hz1 hd1 (pv 2)) (ra_v (re_and (re_isx B.v_RowsError rfl hz1 hd1 (pv 2) rfl B.b_isinstance) (re_one (re_notV (re_isx B.v_BadRow rfl hz1 hd1 (pv 2) rfl B.b_isinstance) rfl)) rfl) ra_nil)))))))) sc__law_shape_or_error.nd rfl)
  (ss_one (s_ret (re_tup (ra_v (re_var 1 (pv 1)) (ra_v re_str (ra_v re_int (ra_v re_bl ra_nil))))))))
abbrev s__law_is_integer : Stmt := top 46
abbrev n__law_is_integer : List Str := ["_law_thing"]
theorem sc__law_is_integer : FnScope n__law_is_integer ["_law_thing"] (defScope s__law_is_integer) := ⟨rfl, rfl, rfl, by decide +kernel, rfl, by decide +kernel, by decide +kernel⟩
def q__law_is_integer_1  : SM := (retM (andV' (isM (peek 0) .int) (un pyNot (isM (peek 0) .bool))))
@[simp] theorem e__law_is_integer_1  (ρ : Ev) : q__law_is_integer_1  ρ = (retM (andV' (isM (peek 0) .int) (un pyNot (isM (peek 0) .bool)))) ρ := (rfl)
def m__law_is_integer : FM := fnB 1 1
  q__law_is_integer_1
theorem em__law_is_integer (as : List Slot) : m__law_is_integer as = if as.length = 1 then fin 1 as (q__law_is_integer_1 (enter 1 as)) else .stuck := ev_fn _ _ _ as
theorem ok__law_is_integer {P : Program} {w : World} {K : PySem.W.Frag} {mg : Str → Option Value} {base : Heap} (B : BN K mg) (d : DefAt K mg "_law_is_integer" s__law_is_integer ["_law_thing"]) : FnAt P w K mg base (DW K mg) 1 "_law_is_integer" ["_law_thing"] m__law_is_integer :=
  fn_at d sc__law_is_integer rfl (by decide) fun cdv A outer s H E hr tk =>
  (ss_one (s_ret (re_and (re_isi B.hT .int rfl (rp_var 0 (pv 0)) rfl B.b_isinstance rfl B.b_int PyProof.Rows.boot_int) (re_one (re_notV (re_isi B.hT .bool rfl (rp_var 0 (pv 0)) rfl B.b_isinstance rfl B.b_bool PyProof.Rows.boot_bool) rfl)) rfl)))
abbrev s_Shape__columns : Stmt := inCls (top 34) 1
abbrev n_Shape__columns : List Str := ["self"]
theorem sc_Shape__columns : FnScope n_Shape__columns ["self"] (defScope s_Shape__columns) := ⟨rfl, rfl, rfl, by decide +kernel, rfl, by decide +kernel, by decide +kernel⟩
def q_Shape__columns_1  : SM := (retO (listM (fldM [5] "_columns" (peek 0))))
@[simp] theorem e_Shape__columns_1  (ρ : Ev) : q_Shape__columns_1  ρ = (retO (listM (fldM [5] "_columns" (peek 0)))) ρ := (rfl)
def m_Shape__columns : FM := fnB 1 1
  q_Shape__columns_1
theorem em_Shape__columns (as : List Slot) : m_Shape__columns as = if as.length = 1 then fin 1 as (q_Shape__columns_1 (enter 1 as)) else .stuck := ev_fn _ _ _ as
theorem ok_Shape__columns {P : Program} {w : World} {K : PySem.W.Frag} {mg : Str → Option Value} {base : Heap} (B : BN K mg) (d : DefMt K (DW K mg) 5 "columns" "Shape.columns" s_Shape__columns ["self"]) : MtAt P w K mg base (DW K mg) 1 "columns" 5 m_Shape__columns :=
  mt_at d sc_Shape__columns rfl (by decide) fun cdv A outer s H E hr tk =>
  (ss_one (s_retO (rn_list rfl (rp_of (re_fld rfl (rp_var 0 (pv 0)) (cfs_cons B.f_5__columns cfs_nil))) rfl B.b_list)))
abbrev s_BadRow____init__ : Stmt := inCls (top 4) 0
abbrev n_BadRow____init__ : List Str := ["self", "column"]
theorem sc_BadRow____init__ : FnScope n_BadRow____init__ ["self", "column"] (defScope s_BadRow____init__) := ⟨rfl, rfl, rfl, by decide +kernel, rfl, by decide +kernel, by decide +kernel⟩
theorem ok_BadRow____init__ {P : Program} {w : World} {K : PySem.W.Frag} {mg : Str → Option Value} {base : Heap} (B : BN K mg) (d : DefXc K mg (DW K mg) 22 "BadRow" "BadRow.__init__" s_BadRow____init__ ["self", "column"] ["column"]) : XcAt P w K mg base (DW K mg) 1 22 "BadRow" ["column"] :=
  xc_1 d sc_BadRow____init__ fun cdv A outer s H E => (pss_one (ps_xt (pv 0) (pv 1)))
abbrev s_find_column : Stmt := top 35
abbrev n_find_column : List Str := ["columns", "name", "column"]
theorem sc_find_column : FnScope n_find_column ["columns", "name"] (defScope s_find_column) := ⟨rfl, rfl, rfl, by decide +kernel, rfl, by decide +kernel, by decide +kernel⟩
def q_find_column_3  : SM := (retV 2)
@[simp] theorem e_find_column_3  (ρ : Ev) : q_find_column_3  ρ = (retV 2) ρ := (rfl)
def q_find_column_2  : SM := (ifM (andM (truM (isM (peek 1) .str)) (asB (bin pyEq (binN pyIx 2 (cst (.int 0))) (peek 1))))
  q_find_column_3
  skipM)
@[simp] theorem e_find_column_2  (ρ : Ev) : q_find_column_2  ρ = (ifM (andM (truM (isM (peek 1) .str)) (asB (bin pyEq (binN pyIx 2 (cst (.int 0))) (peek 1))))
  q_find_column_3
  skipM) ρ := (rfl)
def q_find_column_1  : SM := (frM (itV (getv 0)) (tgN 2)
  q_find_column_2)
@[simp] theorem e_find_column_1  (ρ : Ev) : q_find_column_1  ρ = (frM (itV (getv 0)) (tgN 2)
  q_find_column_2) ρ := (rfl)
def q_find_column_4  : SM := (raiseM 22 ["column"] (argV (getv 1) argNil))
@[simp] theorem e_find_column_4  (ρ : Ev) : q_find_column_4  ρ = (raiseM 22 ["column"] (argV (getv 1) argNil)) ρ := (rfl)
def m_find_column : FM := fnB 2 3
  (seqM q_find_column_1
  q_find_column_4)
theorem em_find_column (as : List Slot) : m_find_column as = if as.length = 2 then fin 2 as ((seqM q_find_column_1
  q_find_column_4) (enter 3 as)) else .stuck := ev_fn _ _ _ as
theorem ok_find_column {P : Program} {w : World} {K : PySem.W.Frag} {mg : Str → Option Value} {base : Heap} (B : BN K mg) (C_BadRow____init__ : XcAt P w K mg base (DW K mg) 1 22 "BadRow" ["column"]) (d : DefAt K mg "find_column" s_find_column ["columns", "name"]) : FnAt P w K mg base (DW K mg) 3 "find_column" ["columns", "name"] m_find_column :=
  fn_at d sc_find_column rfl (by decide) fun cdv A outer s H E hr tk =>
  (ss_cons (s_fr (passes_of rfl) rfl (ri_v rfl (re_var 0 (pv 0))) (pg_name (i := 2) sc_find_column.nd rfl (by first | exact Or.inl rfl | exact Or.inr rfl)) (vs := [2]) (tgx_name (by decide))
  (ss_one (s_if (rb_w (rw_and (rb_truth (rp_of (re_isi B.hT .str rfl (rp_var 1 (pv 1)) rfl B.b_isinstance rfl B.b_str PyProof.Rows.boot_str)) rfl) (rw_and1 (rb_cmp (nomark _) (op_eqP hr.units) sn_eq (re_ixN (hu1 hr) rfl (pv 2) (rp_of re_int)) (rp_var 1 (pv 1))))))
  (ss_one (s_retV 2 (pv 2)))
  ss_nil)))
  (ss_one (s_raise C_BadRow____init__ (by simp) (hr.mono (by omega)) tk (ra_v (re_var 1 (pv 1)) ra_nil))))
abbrev s_Shape__kind : Stmt := inCls (top 34) 5
abbrev n_Shape__kind : List Str := ["self", "name"]
theorem sc_Shape__kind : FnScope n_Shape__kind ["self", "name"] (defScope s_Shape__kind) := ⟨rfl, rfl, rfl, by decide +kernel, rfl, by decide +kernel, by decide +kernel⟩
def q_Shape__kind_1  : SM := (retM (bin pyIx (callE m_find_column (argV (fldM [5] "_columns" (peek 0)) (argV (getv 1) argNil))) (cst (.int 1))))
@[simp] theorem e_Shape__kind_1  (ρ : Ev) : q_Shape__kind_1  ρ = (retM (bin pyIx (callE m_find_column (argV (fldM [5] "_columns" (peek 0)) (argV (getv 1) argNil))) (cst (.int 1)))) ρ := (rfl)
def m_Shape__kind : FM := fnB 2 2
  q_Shape__kind_1
theorem em_Shape__kind (as : List Slot) : m_Shape__kind as = if as.length = 2 then fin 2 as (q_Shape__kind_1 (enter 2 as)) else .stuck := ev_fn _ _ _ as
theorem ok_Shape__kind {P : Program} {w : World} {K : PySem.W.Frag} {mg : Str → Option Value} {base : Heap} (B : BN K mg) (C_find_column : FnAt P w K mg base (DW K mg) 3 "find_column" ["columns", "name"] m_find_column) (d : DefMt K (DW K mg) 5 "kind" "Shape.kind" s_Shape__kind ["self", "name"]) : MtAt P w K mg base (DW K mg) 4 "kind" 5 m_Shape__kind :=
  mt_at d sc_Shape__kind rfl (by decide) fun cdv A outer s H E hr tk =>
  (ss_one (s_ret (re_ix (hu1 hr) rfl (re_callA C_find_column (hr.mono (by omega)) tk (ra_v (re_fld rfl (rp_var 0 (pv 0)) (cfs_cons B.f_5__columns cfs_nil)) (ra_v (re_var 1 (pv 1)) ra_nil))) (rp_of re_int))))
abbrev s__law_flag : Stmt := top 48
abbrev n__law_flag : List Str := ["_law_thing", "_law_due_here"]
theorem sc__law_flag : FnScope n__law_flag ["_law_thing", "_law_due_here"] (defScope s__law_flag) := ⟨rfl, rfl, rfl, by decide +kernel, rfl, by decide +kernel, by decide +kernel⟩
def q__law_flag_1  : SM := (retM (andV' (isM (peek 0) .bool) (binN pyEq 0 (callB bBool (argN 1 argNil)))))
@[simp] theorem e__law_flag_1  (ρ : Ev) : q__law_flag_1  ρ = (retM (andV' (isM (peek 0) .bool) (binN pyEq 0 (callB bBool (argN 1 argNil))))) ρ := (rfl)
def m__law_flag : FM := fnB 2 2
  q__law_flag_1
theorem em__law_flag (as : List Slot) : m__law_flag as = if as.length = 2 then fin 2 as (q__law_flag_1 (enter 2 as)) else .stuck := ev_fn _ _ _ as
theorem ok__law_flag {P : Program} {w : World} {K : PySem.W.Frag} {mg : Str → Option Value} {base : Heap} (B : BN K mg) (d : DefAt K mg "_law_flag" s__law_flag ["_law_thing", "_law_due_here"]) : FnAt P w K mg base (DW K mg) 1 "_law_flag" ["_law_thing", "_law_due_here"] m__law_flag :=
  fn_at d sc__law_flag rfl (by decide) fun cdv A outer s H E hr tk =>
  (ss_one (s_ret (re_and (re_isi B.hT .bool rfl (rp_var 0 (pv 0)) rfl B.b_isinstance rfl B.b_bool PyProof.Rows.boot_bool) (re_one (re_cmpN (nomark _) (op_eqP hr.units) sn_eq (pv 0) (rp_of (re_bool1 (hg := rfl) (hm := B.b_bool) (ha := (ra_n 1 (pv 1) ra_nil)))))) rfl)))
abbrev s_Shape__filled : Stmt := inCls (top 34) 6
abbrev n_Shape__filled : List Str := ["self", "name"]
theorem sc_Shape__filled : FnScope n_Shape__filled ["self", "name"] (defScope s_Shape__filled) := ⟨rfl, rfl, rfl, by decide +kernel, rfl, by decide +kernel, by decide +kernel⟩
def q_Shape__filled_1  : SM := (retM (bin pyIx (callE m_find_column (argV (fldM [5] "_columns" (peek 0)) (argV (getv 1) argNil))) (cst (.int 2))))
@[simp] theorem e_Shape__filled_1  (ρ : Ev) : q_Shape__filled_1  ρ = (retM (bin pyIx (callE m_find_column (argV (fldM [5] "_columns" (peek 0)) (argV (getv 1) argNil))) (cst (.int 2)))) ρ := (rfl)
def m_Shape__filled : FM := fnB 2 2
  q_Shape__filled_1
theorem em_Shape__filled (as : List Slot) : m_Shape__filled as = if as.length = 2 then fin 2 as (q_Shape__filled_1 (enter 2 as)) else .stuck := ev_fn _ _ _ as
theorem ok_Shape__filled {P : Program} {w : World} {K : PySem.W.Frag} {mg : Str → Option Value} {base : Heap} (B : BN K mg) (C_find_column : FnAt P w K mg base (DW K mg) 3 "find_column" ["columns", "name"] m_find_column) (d : DefMt K (DW K mg) 5 "filled" "Shape.filled" s_Shape__filled ["self", "name"]) : MtAt P w K mg base (DW K mg) 4 "filled" 5 m_Shape__filled :=
  mt_at d sc_Shape__filled rfl (by decide) fun cdv A outer s H E hr tk =>
  (ss_one (s_ret (re_ix (hu1 hr) rfl (re_callA C_find_column (hr.mono (by omega)) tk (ra_v (re_fld rfl (rp_var 0 (pv 0)) (cfs_cons B.f_5__columns cfs_nil)) (ra_v (re_var 1 (pv 1)) ra_nil))) (rp_of re_int))))
abbrev s_law : Stmt := top 53
abbrev n_law : List Str := ["_law_script", "_law_draw", "_law_columns", "_law_k", "_law_name_here", "_law_column", "_law_at", "_law_names", "_law_due_here", "_law_given", "_law_actual", "_law_shape", "_law_told", "_law_refused"]
theorem sc_law : FnScope n_law ["_law_script"] (defScope s_law) := ⟨rfl, rfl, rfl, by decide +kernel, rfl, by decide +kernel, by decide +kernel⟩
def q_law_1  : SM := (setO 1 (callO m__law_begin (argV (getv 0) argNil)))
@[simp] theorem e_law_1  (ρ : Ev) : q_law_1  ρ = (setO 1 (callO m__law_begin (argV (getv 0) argNil))) ρ := (rfl)
def q_law_2  : SM := (setO 2 (lstM argNil))
@[simp] theorem e_law_2  (ρ : Ev) : q_law_2  ρ = (setO 2 (lstM argNil)) ρ := (rfl)
def q_law_4  : SM := (setM 4 (callE m__law_name (argN 1 (argV (frz (cmpO 2 [5] (tgN 5) noT (callB bStr (argV (binN pyIx 5 (cst (.int 0))) argNil)))) argNil))))
@[simp] theorem e_law_4  (ρ : Ev) : q_law_4  ρ = (setM 4 (callE m__law_name (argN 1 (argV (frz (cmpO 2 [5] (tgN 5) noT (callB bStr (argV (binN pyIx 5 (cst (.int 0))) argNil)))) argNil)))) ρ := (rfl)
def q_law_5  : SM := (setM 5 (tupM (argV (getv 4) (argV (bin pyIx (frz (lstM (argV (cst (.str "number")) (argV (cst (.str "text")) argNil)))) (callE m__law_take (argN 1 (argV (cst (.int 2)) argNil)))) (argV (bin (pyEqB []) (callE m__law_take (argN 1 (argV (cst (.int 2)) argNil))) (cst (.int 0))) argNil)))))
@[simp] theorem e_law_5  (ρ : Ev) : q_law_5  ρ = (setM 5 (tupM (argV (getv 4) (argV (bin pyIx (frz (lstM (argV (cst (.str "number")) (argV (cst (.str "text")) argNil)))) (callE m__law_take (argN 1 (argV (cst (.int 2)) argNil)))) (argV (bin (pyEqB []) (callE m__law_take (argN 1 (argV (cst (.int 2)) argNil))) (cst (.int 0))) argNil))))) ρ := (rfl)
def q_law_7  : SM := (setO 5 (listM (peek 5)))
@[simp] theorem e_law_7  (ρ : Ev) : q_law_7  ρ = (setO 5 (listM (peek 5))) ρ := (rfl)
def q_law_6  : SM := (ifM (asB (bin (pyEqB []) (callE m__law_take (argN 1 (argV (cst (.int 2)) argNil))) (cst (.int 0))))
  q_law_7
  skipM)
@[simp] theorem e_law_6  (ρ : Ev) : q_law_6  ρ = (ifM (asB (bin (pyEqB []) (callE m__law_take (argN 1 (argV (cst (.int 2)) argNil))) (cst (.int 0))))
  q_law_7
  skipM) ρ := (rfl)
def q_law_8  : SM := (exprM (methM lAppend 2 (argV (getv 5) argNil)))
@[simp] theorem e_law_8  (ρ : Ev) : q_law_8  ρ = (exprM (methM lAppend 2 (argV (getv 5) argNil))) ρ := (rfl)
def q_law_3  : SM := (frM (itR1 (callE m__law_take (argN 1 (argV (cst (.int 15)) argNil)))) (tgN 3)
  (seqM q_law_4
  (seqM q_law_5
  (seqM q_law_6
  q_law_8))))
@[simp] theorem e_law_3  (ρ : Ev) : q_law_3  ρ = (frM (itR1 (callE m__law_take (argN 1 (argV (cst (.int 15)) argNil)))) (tgN 3)
  (seqM q_law_4
  (seqM q_law_5
  (seqM q_law_6
  q_law_8)))) ρ := (rfl)
def q_law_11  : SM := (setM 6 (callE m__law_take (argN 1 (argV (callB bLen (argN 2 argNil)) argNil))))
@[simp] theorem e_law_11  (ρ : Ev) : q_law_11  ρ = (setM 6 (callE m__law_take (argN 1 (argV (callB bLen (argN 2 argNil)) argNil)))) ρ := (rfl)
def q_law_12  : SM := (setO 7 (cmpM [5] (itV (slN 2 noP (someP (getv 6)))) (tgN 5) (truM (callE m__law_is_column (argV (getv 5) (argV (frz (lstM argNil)) argNil)))) (binN pyIx 5 (cst (.int 0)))))
@[simp] theorem e_law_12  (ρ : Ev) : q_law_12  ρ = (setO 7 (cmpM [5] (itV (slN 2 noP (someP (getv 6)))) (tgN 5) (truM (callE m__law_is_column (argV (getv 5) (argV (frz (lstM argNil)) argNil)))) (binN pyIx 5 (cst (.int 0))))) ρ := (rfl)
def q_law_14  : SM := (setIx 2 (getv 6) (callE m__law_spoiled (argN 1 (argV (binN pyIx 2 (peek 6)) (argN 7 argNil)))))
@[simp] theorem e_law_14  (ρ : Ev) : q_law_14  ρ = (setIx 2 (getv 6) (callE m__law_spoiled (argN 1 (argV (binN pyIx 2 (peek 6)) (argN 7 argNil))))) ρ := (rfl)
def q_law_13  : SM := (ifM (truM (callE m__law_is_column (argV (binN pyIx 2 (peek 6)) (argV (frz (lstM argNil)) argNil))))
  q_law_14
  skipM)
@[simp] theorem e_law_13  (ρ : Ev) : q_law_13  ρ = (ifM (truM (callE m__law_is_column (argV (binN pyIx 2 (peek 6)) (argV (frz (lstM argNil)) argNil))))
  q_law_14
  skipM) ρ := (rfl)
def q_law_10  : SM := (ifM (asB (bin pyGt (callB bLen (argN 2 argNil)) (cst (.int 0))))
  (seqM q_law_11
  (seqM q_law_12
  q_law_13))
  skipM)
@[simp] theorem e_law_10  (ρ : Ev) : q_law_10  ρ = (ifM (asB (bin pyGt (callB bLen (argN 2 argNil)) (cst (.int 0))))
  (seqM q_law_11
  (seqM q_law_12
  q_law_13))
  skipM) ρ := (rfl)
def q_law_9  : SM := (frM (itR1 (bin pyMul (callE m__law_take (argN 1 (argV (cst (.int 3)) argNil))) (callE m__law_take (argN 1 (argV (cst (.int 2)) argNil))))) (tgN 3)
  q_law_10)
@[simp] theorem e_law_9  (ρ : Ev) : q_law_9  ρ = (frM (itR1 (bin pyMul (callE m__law_take (argN 1 (argV (cst (.int 3)) argNil))) (callE m__law_take (argN 1 (argV (cst (.int 2)) argNil))))) (tgN 3)
  q_law_10) ρ := (rfl)
def q_law_15  : SM := (setM 8 (callE m__law_due (argV (getv 2) argNil)))
@[simp] theorem e_law_15  (ρ : Ev) : q_law_15  ρ = (setM 8 (callE m__law_due (argV (getv 2) argNil))) ρ := (rfl)
def q_law_16  : SM := (setO 9 (listM (peek 2)))
@[simp] theorem e_law_16  (ρ : Ev) : q_law_16  ρ = (setO 9 (listM (peek 2))) ρ := (rfl)
def q_law_18  : SM := (setM 9 (callB bTup (argN 2 argNil)))
@[simp] theorem e_law_18  (ρ : Ev) : q_law_18  ρ = (setM 9 (callB bTup (argN 2 argNil))) ρ := (rfl)
def q_law_17  : SM := (ifM (asB (bin (pyEqB []) (callE m__law_take (argN 1 (argV (cst (.int 2)) argNil))) (cst (.int 0))))
  q_law_18
  skipM)
@[simp] theorem e_law_17  (ρ : Ev) : q_law_17  ρ = (ifM (asB (bin (pyEqB []) (callE m__law_take (argN 1 (argV (cst (.int 2)) argNil))) (cst (.int 0))))
  q_law_18
  skipM) ρ := (rfl)
def q_law_19  : SM := (setM 10 (callE m__law_shape_or_error (argV (getv 9) argNil)))
@[simp] theorem e_law_19  (ρ : Ev) : q_law_19  ρ = (setM 10 (callE m__law_shape_or_error (argV (getv 9) argNil))) ρ := (rfl)
def q_law_21  : SM := (retM (cst (.bl false)))
@[simp] theorem e_law_21  (ρ : Ev) : q_law_21  ρ = (retM (cst (.bl false))) ρ := (rfl)
def q_law_20  : SM := (ifM (orM (asB (bin (pyNeB []) (frz (listM (peek 9))) (peek 2))) (notM (truM (binN pyIx 10 (cst (.int 3))))))
  q_law_21
  skipM)
@[simp] theorem e_law_20  (ρ : Ev) : q_law_20  ρ = (ifM (orM (asB (bin (pyNeB []) (frz (listM (peek 9))) (peek 2))) (notM (truM (binN pyIx 10 (cst (.int 3))))))
  q_law_21
  skipM) ρ := (rfl)
def q_law_23  : SM := (retM (andV' (bin pyIs (binN pyIx 10 (cst (.int 0))) (cst .non)) (andV' (bin (pyEqB []) (binN pyIx 10 (cst (.int 1))) (cst (.str "columns"))) (andV' (callE m__law_is_integer (argV (binN pyIx 10 (cst (.int 2))) argNil)) (bin (pyEqB []) (binN pyIx 10 (cst (.int 2))) (peek 8))))))
@[simp] theorem e_law_23  (ρ : Ev) : q_law_23  ρ = (retM (andV' (bin pyIs (binN pyIx 10 (cst (.int 0))) (cst .non)) (andV' (bin (pyEqB []) (binN pyIx 10 (cst (.int 1))) (cst (.str "columns"))) (andV' (callE m__law_is_integer (argV (binN pyIx 10 (cst (.int 2))) argNil)) (bin (pyEqB []) (binN pyIx 10 (cst (.int 2))) (peek 8)))))) ρ := (rfl)
def q_law_22  : SM := (ifM (asB (binN pyIsNot 8 (cst .non)))
  q_law_23
  skipM)
@[simp] theorem e_law_22  (ρ : Ev) : q_law_22  ρ = (ifM (asB (binN pyIsNot 8 (cst .non)))
  q_law_23
  skipM) ρ := (rfl)
def q_law_24  : SM := (setM 11 (binN pyIx 10 (cst (.int 0))))
@[simp] theorem e_law_24  (ρ : Ev) : q_law_24  ρ = (setM 11 (binN pyIx 10 (cst (.int 0)))) ρ := (rfl)
def q_law_26  : SM := (retM (cst (.bl false)))
@[simp] theorem e_law_26  (ρ : Ev) : q_law_26  ρ = (retM (cst (.bl false))) ρ := (rfl)
def q_law_25  : SM := (ifM (asB (binN pyIs 11 (cst .non)))
  q_law_26
  skipM)
@[simp] theorem e_law_25  (ρ : Ev) : q_law_25  ρ = (ifM (asB (binN pyIs 11 (cst .non)))
  q_law_26
  skipM) ρ := (rfl)
def q_law_27  : SM := (setO 12 (mthO [(5, m_Shape__columns)] "columns" (selfN 11) argNil))
@[simp] theorem e_law_27  (ρ : Ev) : q_law_27  ρ = (setO 12 (mthO [(5, m_Shape__columns)] "columns" (selfN 11) argNil)) ρ := (rfl)
def q_law_29  : SM := (retM (cst (.bl false)))
@[simp] theorem e_law_29  (ρ : Ev) : q_law_29  ρ = (retM (cst (.bl false))) ρ := (rfl)
def q_law_28  : SM := (ifM (orM (notM (truM (isM (peek 12) .list))) (asB (binN (pyNeB []) 12 (frz (cmpM [5] (itV (getv 2)) (tgN 5) noT (callB bTup (argN 5 argNil)))))))
  q_law_29
  skipM)
@[simp] theorem e_law_28  (ρ : Ev) : q_law_28  ρ = (ifM (orM (notM (truM (isM (peek 12) .list))) (asB (binN (pyNeB []) 12 (frz (cmpM [5] (itV (getv 2)) (tgN 5) noT (callB bTup (argN 5 argNil)))))))
  q_law_29
  skipM) ρ := (rfl)
def q_law_30  : SM := (exprM (methM lClear 12 argNil))
@[simp] theorem e_law_30  (ρ : Ev) : q_law_30  ρ = (exprM (methM lClear 12 argNil)) ρ := (rfl)
def q_law_31  : SM := (setO 7 (mthO [(3, m_Test__names), (5, m_Shape__names)] "names" (selfN 11) argNil))
@[simp] theorem e_law_31  (ρ : Ev) : q_law_31  ρ = (setO 7 (mthO [(3, m_Test__names), (5, m_Shape__names)] "names" (selfN 11) argNil)) ρ := (rfl)
def q_law_32  : SM := (exprM (methM lReverse 7 argNil))
@[simp] theorem e_law_32  (ρ : Ev) : q_law_32  ρ = (exprM (methM lReverse 7 argNil)) ρ := (rfl)
def q_law_34  : SM := (retM (cst (.bl false)))
@[simp] theorem e_law_34  (ρ : Ev) : q_law_34  ρ = (retM (cst (.bl false))) ρ := (rfl)
def q_law_33  : SM := (ifM (orM (asB (bin (pyNeB []) (mthE [(3, m_Test__names), (5, m_Shape__names)] "names" (selfN 11) argNil) (frz (cmpM [5] (itV (getv 2)) (tgN 5) noT (binN pyIx 5 (cst (.int 0))))))) (asB (bin (pyNeB []) (callB bLen (argV (mthE [(5, m_Shape__columns)] "columns" (selfN 11) argNil) argNil)) (callB bLen (argN 2 argNil)))))
  q_law_34
  skipM)
@[simp] theorem e_law_33  (ρ : Ev) : q_law_33  ρ = (ifM (orM (asB (bin (pyNeB []) (mthE [(3, m_Test__names), (5, m_Shape__names)] "names" (selfN 11) argNil) (frz (cmpM [5] (itV (getv 2)) (tgN 5) noT (binN pyIx 5 (cst (.int 0))))))) (asB (bin (pyNeB []) (callB bLen (argV (mthE [(5, m_Shape__columns)] "columns" (selfN 11) argNil) argNil)) (callB bLen (argN 2 argNil)))))
  q_law_34
  skipM) ρ := (rfl)
def q_law_37  : SM := (retM (cst (.bl false)))
@[simp] theorem e_law_37  (ρ : Ev) : q_law_37  ρ = (retM (cst (.bl false))) ρ := (rfl)
def q_law_36  : SM := (ifM (orM (asB (bin (pyNeB []) (mthE [(5, m_Shape__kind)] "kind" (selfN 11) (argV (binN pyIx 5 (cst (.int 0))) argNil)) (binN pyIx 5 (cst (.int 1))))) (notM (truM (callE m__law_flag (argV (mthE [(5, m_Shape__filled)] "filled" (selfN 11) (argV (binN pyIx 5 (cst (.int 0))) argNil)) (argV (binN pyIx 5 (cst (.int 2))) argNil))))))
  q_law_37
  skipM)
@[simp] theorem e_law_36  (ρ : Ev) : q_law_36  ρ = (ifM (orM (asB (bin (pyNeB []) (mthE [(5, m_Shape__kind)] "kind" (selfN 11) (argV (binN pyIx 5 (cst (.int 0))) argNil)) (binN pyIx 5 (cst (.int 1))))) (notM (truM (callE m__law_flag (argV (mthE [(5, m_Shape__filled)] "filled" (selfN 11) (argV (binN pyIx 5 (cst (.int 0))) argNil)) (argV (binN pyIx 5 (cst (.int 2))) argNil))))))
  q_law_37
  skipM) ρ := (rfl)
def q_law_35  : SM := (frM (itV (getv 2)) (tgN 5)
  q_law_36)
@[simp] theorem e_law_35  (ρ : Ev) : q_law_35  ρ = (frM (itV (getv 2)) (tgN 5)
  q_law_36) ρ := (rfl)
def q_law_38  : SM := (setM 13 (callE m__law_shape_or_error (argV (bin pyIx (frz (lstM (argV (cst .non) (argV (cst (.int 5)) (argV (cst (.str "a")) (argV (frz dct0) (argV (cst (.bl true)) argNil))))))) (callE m__law_take (argN 1 (argV (cst (.int 5)) argNil)))) argNil)))
@[simp] theorem e_law_38  (ρ : Ev) : q_law_38  ρ = (setM 13 (callE m__law_shape_or_error (argV (bin pyIx (frz (lstM (argV (cst .non) (argV (cst (.int 5)) (argV (cst (.str "a")) (argV (frz dct0) (argV (cst (.bl true)) argNil))))))) (callE m__law_take (argN 1 (argV (cst (.int 5)) argNil)))) argNil))) ρ := (rfl)
def q_law_39  : SM := (retM (andV' (bin pyIs (binN pyIx 13 (cst (.int 0))) (cst .non)) (andV' (bin (pyEqB []) (binN pyIx 13 (cst (.int 1))) (cst (.str "columns"))) (bin (pyEqB []) (binN pyIx 13 (cst (.int 2))) (un pyNeg (cst (.int 1)))))))
@[simp] theorem e_law_39  (ρ : Ev) : q_law_39  ρ = (retM (andV' (bin pyIs (binN pyIx 13 (cst (.int 0))) (cst .non)) (andV' (bin (pyEqB []) (binN pyIx 13 (cst (.int 1))) (cst (.str "columns"))) (bin (pyEqB []) (binN pyIx 13 (cst (.int 2))) (un pyNeg (cst (.int 1))))))) ρ := (rfl)
def m_law : FM := fnB 1 14
  (seqM q_law_1
  (seqM q_law_2
  (seqM q_law_3
  (seqM q_law_9
  (seqM q_law_15
  (seqM q_law_16
  (seqM q_law_17
  (seqM q_law_19
  (seqM q_law_20
  (seqM q_law_22
  (seqM q_law_24
  (seqM q_law_25
  (seqM q_law_27
  (seqM q_law_28
  (seqM q_law_30
  (seqM q_law_31
  (seqM q_law_32
  (seqM q_law_33
  (seqM q_law_35
  (seqM q_law_38
  q_law_39))))))))))))))))))))
theorem em_law (as : List Slot) : m_law as = if as.length = 1 then fin 1 as ((seqM q_law_1
  (seqM q_law_2
  (seqM q_law_3
  (seqM q_law_9
  (seqM q_law_15
  (seqM q_law_16
  (seqM q_law_17
  (seqM q_law_19
  (seqM q_law_20
  (seqM q_law_22
  (seqM q_law_24
  (seqM q_law_25
  (seqM q_law_27
  (seqM q_law_28
  (seqM q_law_30
  (seqM q_law_31
  (seqM q_law_32
  (seqM q_law_33
  (seqM q_law_35
  (seqM q_law_38
  q_law_39)))))))))))))))))))) (enter 14 as)) else .stuck := ev_fn _ _ _ as
theorem ok_law {P : Program} {w : World} {K : PySem.W.Frag} {mg : Str → Option Value} {base : Heap} (B : BN K mg) (C__law_begin : FnAt P w K mg base (DW K mg) 1 "_law_begin" ["_law_script"] m__law_begin) (C__law_take : FnAt P w K mg base (DW K mg) 1 "_law_take" ["_law_draw", "_law_many"] m__law_take) (C__law_name : FnAt P w K mg base (DW K mg) 2 "_law_name" ["_law_draw", "_law_taken"] m__law_name) (C__law_is_column : FnAt P w K mg base (DW K mg) 1 "_law_is_column" ["_law_thing", "_law_names"] m__law_is_column) (C__law_spoiled : FnAt P w K mg base (DW K mg) 2 "_law_spoiled" ["_law_draw", "_law_column", "_law_names"] m__law_spoiled) (C__law_due : FnAt P w K mg base (DW K mg) 2 "_law_due" ["_law_columns"] m__law_due) (C__law_shape_or_error : FnAt P w K mg base (DW K mg) 48 "_law_shape_or_error" ["_law_columns"] m__law_shape_or_error) (C__law_is_integer : FnAt P w K mg base (DW K mg) 1 "_law_is_integer" ["_law_thing"] m__law_is_integer) (C_Shape__columns : MtAt P w K mg base (DW K mg) 1 "columns" 5 m_Shape__columns) (C_Shape__names : MtAt P w K mg base (DW K mg) 1 "names" 5 m_Shape__names) (C_Test__names : MtAt P w K mg base (DW K mg) 41 "names" 3 m_Test__names) (C_Shape__kind : MtAt P w K mg base (DW K mg) 4 "kind" 5 m_Shape__kind) (C__law_flag : FnAt P w K mg base (DW K mg) 1 "_law_flag" ["_law_thing", "_law_due_here"] m__law_flag) (C_Shape__filled : MtAt P w K mg base (DW K mg) 4 "filled" 5 m_Shape__filled) (d : DefAt K mg "law" s_law ["_law_script"]) : FnAt P w K mg base (DW K mg) 50 "law" ["_law_script"] m_law :=
  fn_at d sc_law rfl (by decide) fun cdv A outer s H E hr tk =>
  (ss_cons (s_setO (i := 1) sc_law.nd rfl (by first | exact Or.inl rfl | exact Or.inr rfl) (rn_callA C__law_begin (hr.mono (by omega)) tk (ra_v (re_var 0 (pv 0)) ra_nil)))
  (ss_cons (s_setO (i := 2) sc_law.nd rfl (by first | exact Or.inl rfl | exact Or.inr rfl) (rn_lst ra_nil))
  (ss_cons (s_fr (passes_of rfl) rfl (ri_r1 rfl B.b_range (re_callA C__law_take (hr.mono (by omega)) tk (ra_n 1 (pv 1) (ra_v re_int ra_nil)))) (pg_name (i := 3) sc_law.nd rfl (by first | exact Or.inl rfl | exact Or.inr rfl)) (vs := [3]) (tgx_name (by decide))
  (ss_cons (s_set (i := 4) sc_law.nd rfl (by first | exact Or.inl rfl | exact Or.inr rfl) (re_callA C__law_name (hr.mono (by omega)) tk (ra_n 1 (pv 1) (ra_v (re_frz (rn_lcO (io := 2) (hK := rfl) (own := [("_law_column", 5)]) (tg := (tgN 5)) (hc := rfl) (hN := sc_law.nd) (ok := blkOk_by (N := n_law) (sc := defScope s_law) (by decide +kernel)) (hi := (pv 2)) (hg := fun _ _ _ _ _ => (pg_name (i := 5) sc_law.nd rfl (by first | exact Or.inl rfl | exact Or.inr rfl))) (ht := fun _ _ _ _ _ => pts_no) (he := fun _ _ _ _ _ => (re_str1 (hg := rfl) (hm := B.b_str) (ha := (ra_v (re_ixN (hu1 hr) rfl (pv 5) (rp_of re_int)) ra_nil)))) (tk := (tgx_name (by decide))))) ra_nil))))
  (ss_cons (s_set (i := 5) sc_law.nd rfl (by first | exact Or.inl rfl | exact Or.inr rfl) (re_tup (ra_v (re_var 4 (pv 4)) (ra_v (re_ix (hu1 hr) rfl (re_frz (rn_lst (ra_v re_str (ra_v re_str ra_nil)))) (rp_of (re_callA C__law_take (hr.mono (by omega)) tk (ra_n 1 (pv 1) (ra_v re_int ra_nil))))) (ra_v (re_cmp (nomark _) (op_eqB (k := 0) (tab := []) rfl B.uq tbl_nil dun_nil (hr.mono (by omega))) sn_eqB (re_callA C__law_take (hr.mono (by omega)) tk (ra_n 1 (pv 1) (ra_v re_int ra_nil))) (rp_of re_int)) ra_nil)))))
  (ss_cons (s_if (rb_cmp (nomark _) (op_eqB (k := 0) (tab := []) rfl B.uq tbl_nil dun_nil (hr.mono (by omega))) sn_eqB (re_callA C__law_take (hr.mono (by omega)) tk (ra_n 1 (pv 1) (ra_v re_int ra_nil))) (rp_of re_int))
  (ss_one (s_setO (i := 5) sc_law.nd rfl (by first | exact Or.inl rfl | exact Or.inr rfl) (rn_list rfl (rp_var 5 (pv 5)) rfl B.b_list)))
  ss_nil)
  (ss_one (s_expr (re_lm PySem.F.slot_list_append PySem.F.type_list_append mt_append sn_append rfl (pv 2) (ra_v (re_var 5 (pv 5)) ra_nil))))))))
  (ss_cons (s_fr (passes_of rfl) rfl (ri_r1 rfl B.b_range (re_bin op_mulW sn_mul (re_callA C__law_take (hr.mono (by omega)) tk (ra_n 1 (pv 1) (ra_v re_int ra_nil))) (rp_of (re_callA C__law_take (hr.mono (by omega)) tk (ra_n 1 (pv 1) (ra_v re_int ra_nil)))))) (pg_name (i := 3) sc_law.nd rfl (by first | exact Or.inl rfl | exact Or.inr rfl)) (vs := [3]) (tgx_name (by decide))
  (ss_one (s_if (rb_cmp (nomark _) op_gtP sn_gt (re_len rfl (hg := rfl) (hm := B.b_len) (ha := (ra_n 2 (pv 2) ra_nil))) (rp_of re_int))
  (ss_cons (s_set (i := 6) sc_law.nd rfl (by first | exact Or.inl rfl | exact Or.inr rfl) (re_callA C__law_take (hr.mono (by omega)) tk (ra_n 1 (pv 1) (ra_v (re_len rfl (hg := rfl) (hm := B.b_len) (ha := (ra_n 2 (pv 2) ra_nil))) ra_nil))))
  (ss_cons (s_setLc (i := 7) (hy := rfl) (hyl := rfl) (hsw := sw_true rfl rfl rfl (by decide +kernel)) (own := [("_law_column", 5)]) (tg := (tgN 5)) (hc := rfl) (hN := sc_law.nd) (ok := blkOk_by (N := n_law) (sc := defScope s_law) (by decide +kernel)) (hi := (ri_v rfl (re_slN rfl (pv 2) ro_none (ro_some (re_var 6 (pv 6)))))) (hg := fun _ _ _ _ _ => (pg_name (i := 5) sc_law.nd rfl (by first | exact Or.inl rfl | exact Or.inr rfl))) (ht := fun _ _ _ _ _ => (pts_t (rb_truth (rp_of (re_callA C__law_is_column (hr.mono (by omega)) takes0 (ra_v (re_var 5 (pv 5)) (ra_v (re_frz (rn_lst ra_nil)) ra_nil)))) rfl))) (he := fun _ _ _ _ _ => (re_ixN (hu1 hr) rfl (pv 5) (rp_of re_int))) (tk := (tgx_name (by decide))))
  (ss_one (s_if (rb_truth (rp_of (re_callA C__law_is_column (hr.mono (by omega)) tk (ra_v (re_ixN (hu1 hr) rfl (pv 2) (rp_var 6 (pv 6))) (ra_v (re_frz (rn_lst ra_nil)) ra_nil)))) rfl)
  (ss_one (s_setIx (i := 2) (hu1 hr) (pv 2) (re_var 6 (pv 6)) (re_callA C__law_spoiled (hr.mono (by omega)) tk (ra_n 1 (pv 1) (ra_v (re_ixN (hu1 hr) rfl (pv 2) (rp_var 6 (pv 6))) (ra_n 7 (pv 7) ra_nil))))))
  ss_nil))))
  ss_nil)))
  (ss_cons (s_set (i := 8) sc_law.nd rfl (by first | exact Or.inl rfl | exact Or.inr rfl) (re_callA C__law_due (hr.mono (by omega)) tk (ra_v (re_var 2 (pv 2)) ra_nil)))
  (ss_cons (s_setO (i := 9) sc_law.nd rfl (by first | exact Or.inl rfl | exact Or.inr rfl) (rn_list rfl (rp_var 2 (pv 2)) rfl B.b_list))
  (ss_cons (s_if (rb_cmp (nomark _) (op_eqB (k := 0) (tab := []) rfl B.uq tbl_nil dun_nil (hr.mono (by omega))) sn_eqB (re_callA C__law_take (hr.mono (by omega)) tk (ra_n 1 (pv 1) (ra_v re_int ra_nil))) (rp_of re_int))
  (ss_one (s_set (i := 9) sc_law.nd rfl (by first | exact Or.inl rfl | exact Or.inr rfl) (re_tup1 (hK := rfl) (hg := rfl) (hm := B.b_tuple) (ha := (ra_n 2 (pv 2) ra_nil)))))
  ss_nil)
  (ss_cons (s_set (i := 10) sc_law.nd rfl (by first | exact Or.inl rfl | exact Or.inr rfl) (re_callA C__law_shape_or_error (hr.mono (by omega)) tk (ra_v (re_var 9 (pv 9)) ra_nil)))
  (ss_cons (s_if (rb_w (rw_or (rb_cmp (nomark _) (op_neB (k := 0) (tab := []) rfl B.uq tbl_nil dun_nil (hr.mono (by omega))) sn_neB (re_frz (rn_list rfl (rp_var 9 (pv 9)) rfl B.b_list)) (rp_var 2 (pv 2))) (rw_or1 (rb_not (rb_truth (rp_of (re_ixN (hu1 hr) rfl (pv 10) (rp_of re_int))) rfl)))))
  (ss_one (s_ret re_bl))
  ss_nil)
  (ss_cons (s_if (rb_cmpN (nomark _) op_isNotP sn_isNot (pv 8) (rp_of re_non))
  (ss_one (s_ret (re_and (re_cmp (nomark _) op_isP sn_is (re_ixN (hu1 hr) rfl (pv 10) (rp_of re_int)) (rp_of re_non)) (re_and (re_cmp (nomark _) (op_eqB (k := 0) (tab := []) rfl B.uq tbl_nil dun_nil (hr.mono (by omega))) sn_eqB (re_ixN (hu1 hr) rfl (pv 10) (rp_of re_int)) (rp_of re_str)) (re_and (re_callA C__law_is_integer (hr.mono (by omega)) tk (ra_v (re_ixN (hu1 hr) rfl (pv 10) (rp_of re_int)) ra_nil)) (re_one (re_cmp (nomark _) (op_eqB (k := 0) (tab := []) rfl B.uq tbl_nil dun_nil (hr.mono (by omega))) sn_eqB (re_ixN (hu1 hr) rfl (pv 10) (rp_of re_int)) (rp_var 8 (pv 8)))) rfl) rfl) rfl)))
  ss_nil)
  (ss_cons (s_set (i := 11) sc_law.nd rfl (by first | exact Or.inl rfl | exact Or.inr rfl) (re_ixN (hu1 hr) rfl (pv 10) (rp_of re_int)))
  (ss_cons (s_if (rb_cmpN (nomark _) op_isP sn_is (pv 11) (rp_of re_non))
  (ss_one (s_ret re_bl))
  ss_nil)
  (ss_cons (s_setO (i := 12) sc_law.nd rfl (by first | exact Or.inl rfl | exact Or.inr rfl) (rn_mth0 (tbl_cons (C_Shape__columns.mono (by omega)) tbl_nil) hr tk (rs_n 11 (pv 11))))
  (ss_cons (s_if (rb_w (rw_or (rb_not (rb_truth (rp_of (re_isi B.hT .list rfl (rp_var 12 (pv 12)) rfl B.b_isinstance rfl B.b_list PyProof.Rows.boot_list)) rfl)) (rw_or1 (rb_cmpN (nomark _) (op_neB (k := 0) (tab := []) rfl B.uq tbl_nil dun_nil (hr.mono (by omega))) sn_neB (pv 12) (rp_of (re_frz (rn_lc (own := [("_law_column", 5)]) (tg := (tgN 5)) (hc := rfl) (hN := sc_law.nd) (ok := blkOk_by (N := n_law) (sc := defScope s_law) (by decide +kernel)) (hi := (ri_v rfl (re_var 2 (pv 2)))) (hg := fun _ _ _ _ _ => (pg_name (i := 5) sc_law.nd rfl (by first | exact Or.inl rfl | exact Or.inr rfl))) (ht := fun _ _ _ _ _ => pts_no) (he := fun _ _ _ _ _ => (re_tup1 (hK := rfl) (hg := rfl) (hm := B.b_tuple) (ha := (ra_n 5 (pv 5) ra_nil)))) (tk := (tgx_name (by decide))))))))))
  (ss_one (s_ret re_bl))
  ss_nil)
  (ss_cons (s_expr (re_lm0 PySem.F.slot_list_clear PySem.F.type_list_clear mt_clear sn_clear rfl (pv 12)))
  (ss_cons (s_setO (i := 7) sc_law.nd rfl (by first | exact Or.inl rfl | exact Or.inr rfl) (rn_mth0 (tbl_cons (C_Test__names.mono (by omega)) (tbl_cons (C_Shape__names.mono (by omega)) tbl_nil)) hr tk (rs_n 11 (pv 11))))
  (ss_cons (s_expr (re_lm0 PySem.F.slot_list_reverse PySem.F.type_list_reverse mt_reverse sn_reverse rfl (pv 7)))
  (ss_cons (s_if (rb_w (rw_or (rb_cmp (nomark _) (op_neB (k := 0) (tab := []) rfl B.uq tbl_nil dun_nil (hr.mono (by omega))) sn_neB (re_mth0 (tbl_cons (C_Test__names.mono (by omega)) (tbl_cons (C_Shape__names.mono (by omega)) tbl_nil)) hr tk (rs_n 11 (pv 11))) (rp_of (re_frz (rn_lc (own := [("_law_column", 5)]) (tg := (tgN 5)) (hc := rfl) (hN := sc_law.nd) (ok := blkOk_by (N := n_law) (sc := defScope s_law) (by decide +kernel)) (hi := (ri_v rfl (re_var 2 (pv 2)))) (hg := fun _ _ _ _ _ => (pg_name (i := 5) sc_law.nd rfl (by first | exact Or.inl rfl | exact Or.inr rfl))) (ht := fun _ _ _ _ _ => pts_no) (he := fun _ _ _ _ _ => (re_ixN (hu1 hr) rfl (pv 5) (rp_of re_int))) (tk := (tgx_name (by decide))))))) (rw_or1 (rb_cmp (nomark _) (op_neB (k := 0) (tab := []) rfl B.uq tbl_nil dun_nil (hr.mono (by omega))) sn_neB (re_len rfl (hg := rfl) (hm := B.b_len) (ha := (ra_v (re_mth0 (tbl_cons (C_Shape__columns.mono (by omega)) tbl_nil) hr tk (rs_n 11 (pv 11))) ra_nil))) (rp_of (re_len rfl (hg := rfl) (hm := B.b_len) (ha := (ra_n 2 (pv 2) ra_nil))))))))
  (ss_one (s_ret re_bl))
  ss_nil)
  (ss_cons (s_fr (passes_of rfl) rfl (ri_v rfl (re_var 2 (pv 2))) (pg_name (i := 5) sc_law.nd rfl (by first | exact Or.inl rfl | exact Or.inr rfl)) (vs := [5]) (tgx_name (by decide))
  (ss_one (s_if (rb_w (rw_or (rb_cmp (nomark _) (op_neB (k := 0) (tab := []) rfl B.uq tbl_nil dun_nil (hr.mono (by omega))) sn_neB (re_mth (tbl_cons (C_Shape__kind.mono (by omega)) tbl_nil) hr tk (rs_n 11 (pv 11)) (ra_v (re_ixN (hu1 hr) rfl (pv 5) (rp_of re_int)) ra_nil)) (rp_of (re_ixN (hu1 hr) rfl (pv 5) (rp_of re_int)))) (rw_or1 (rb_not (rb_truth (rp_of (re_callA C__law_flag (hr.mono (by omega)) tk (ra_v (re_mth (tbl_cons (C_Shape__filled.mono (by omega)) tbl_nil) hr tk (rs_n 11 (pv 11)) (ra_v (re_ixN (hu1 hr) rfl (pv 5) (rp_of re_int)) ra_nil)) (ra_v (re_ixN (hu1 hr) rfl (pv 5) (rp_of re_int)) ra_nil)))) rfl)))))
  (ss_one (s_ret re_bl))
  ss_nil)))
  (ss_cons (s_set (i := 13) sc_law.nd rfl (by first | exact Or.inl rfl | exact Or.inr rfl) (re_callA C__law_shape_or_error (hr.mono (by omega)) tk (ra_v (re_ix (hu1 hr) rfl (re_frz (rn_lst (ra_v re_non (ra_v re_int (ra_v re_str (ra_v (re_frz rn_dct0) (ra_v re_bl ra_nil))))))) (rp_of (re_callA C__law_take (hr.mono (by omega)) tk (ra_n 1 (pv 1) (ra_v re_int ra_nil))))) ra_nil)))
  (ss_one (s_ret (re_and (re_cmp (nomark _) op_isP sn_is (re_ixN (hu1 hr) rfl (pv 13) (rp_of re_int)) (rp_of re_non)) (re_and (re_cmp (nomark _) (op_eqB (k := 0) (tab := []) rfl B.uq tbl_nil dun_nil (hr.mono (by omega))) sn_eqB (re_ixN (hu1 hr) rfl (pv 13) (rp_of re_int)) (rp_of re_str)) (re_one (re_cmp (nomark _) (op_eqB (k := 0) (tab := []) rfl B.uq tbl_nil dun_nil (hr.mono (by omega))) sn_eqB (re_ixN (hu1 hr) rfl (pv 13) (rp_of re_int)) (rp_of (re_neg re_int)))) rfl) rfl)))))))))))))))))))))))
end
end Gk

set_option Elab.async false
set_option linter.all false
set_option maxRecDepth 100000
namespace Gk
open PySem PySem.Spec L2 TR
set_option autoImplicit false
theorem ix0c (x : PV) (xs : List PV) : atI (x :: xs) 0 = some x := by
  unfold atI ixN
  simp
theorem ix1c (x y : PV) (xs : List PV) : atI (x :: y :: xs) 1 = some y := by
  unfold atI ixN
  have : (1 : Int) < ((x :: y :: xs).length : Int) := by simp; omega
  rw [if_pos (by decide), if_pos this]
  rfl
theorem frL_step {tg : Tg} {body : SM} {x : PV} {xs : List PV} {ρ ρ1 ρ2 : Ev} (h : tg x ρ = some ρ1) (hb : body ρ1 = .nxt ρ2) : frL tg body (x :: xs) ρ = frL tg body xs ρ2 := by
  rw [frL]
  simp only [h, hb]
  rfl
theorem frL_stop {tg : Tg} {body : SM} {x : PV} {xs : List PV} {ρ ρ1 ρ2 : Ev} {r : Ret} (h : tg x ρ = some ρ1) (hb : body ρ1 = .ret r ρ2) : frL tg body (x :: xs) ρ = .ret r ρ2 := by
  rw [frL]
  simp only [h, hb]
  rfl
@[simp] theorem frL_none {tg : Tg} {body : SM} {ρ : Ev} : frL tg body [] ρ = .nxt ρ := (rfl)

structure DS where
  cells : List Int
  p : Int
  h : Int
  s : Int
  c : Int
def DS.mo (d : DS) : MO := .lst [.lst (d.cells.map .int), .int d.p, .int d.h, .int d.s, .int d.c]
/-- what a draw's rest stays below -/
def big : Int := 10 ^ 900
theorem big_eq : big = (10 ^ 60) ^ 15 := by decide +kernel
theorem big_lt : big < 2 ^ 3000 := by decide +kernel
theorem big_gt : 10 ^ 60 < big := by decide +kernel
structure DS.ok (n : Nat) (d : DS) : Prop where
  p0 : 0 ≤ d.p
  h0 : 0 ≤ d.h
  h1 : d.h < big
  s0 : 0 ≤ d.s
  s1 : d.s < 2147483647
  c0 : 0 ≤ d.c
  c1 : d.c ≤ n
theorem mul64 {i j : Int} (hi : i.natAbs < 2 ^ 64) (hj : j.natAbs < 2 ^ 64) : CMulW i j := wide_mul hi hj (by decide) (by decide) (by decide)
theorem pow_a : CPowW 10 18 := by decide
theorem pow_b : CPowW 10 60 := by decide
theorem pow_c : CPowW 1000000000000000000000000000000000000000000000000000000000000 15 := by decide
theorem pow_5 {i : Int} (h : i.natAbs < 2 ^ 64) : CPowW i 5 := by
  refine ⟨by decide, ?_⟩
  have : Builtin.Int.intBits i ≤ 64 := by
    unfold Builtin.Int.intBits
    split
    · omega
    · have := PySem.Flt.log2_lt_of (by decide : 0 < 64) h
      omega
  omega
theorem div_many {i j : Int} (h : 0 < j) (h2 : j < big) : CDivW i j := wide_div (b := 3000) h (by
  have h3 : j < 2 ^ 3000 := Int.lt_trans h2 big_lt
  have h4 : ((j.natAbs : Int)) < ((2 ^ 3000 : Nat) : Int) := by
    rw [Int.natAbs_of_nonneg (by omega)]
    exact_mod_cast h3
  exact_mod_cast h4) (by decide) (by decide)
theorem div_8 {i : Int} : CDivW i 8 := ⟨by decide, by decide⟩
theorem tail_ok {n : Nat} {d : DS} {many : Int} {x : Slot} (h : d.ok n) (hn : n < 10 ^ 15) (hm : 0 < many) (hm2 : many < big) :
    ∃ r d' y z, (seqM q__law_take_7 (seqM q__law_take_11 (seqM q__law_take_12 (seqM q__law_take_13 (seqM q__law_take_14 q__law_take_15))))) [.own true d.mo, .val (.int many), x, .non, .non] = .ret (.v (.int r)) [.own true (DS.mo d'), .val (.int many), x, y, z] ∧ 0 ≤ r ∧ r < many ∧ DS.ok (n + 1) d' := by
  obtain ⟨h1, h2, h3, h4, h5, h6, h7⟩ := h
  have hnn : (n : Int) < 10 ^ 15 := by exact_mod_cast hn
  have hc : d.c < 10 ^ 15 := by omega
  by_cases c1 : 0 < d.h
  · have k : DS.ok (n + 1) { d with h := d.h / many } := ⟨h1, Int.ediv_nonneg h2 (by omega), Int.lt_of_le_of_lt (Int.ediv_le_self _ h2) h3, h4, h5, h6, by show d.c ≤ ((n + 1 : Nat) : Int); omega⟩
    refine ⟨d.h % many, { d with h := d.h / many }, .val (.int (d.h % many)), .non, ?_, Int.emod_nonneg _ (by omega), Int.emod_lt_of_pos _ hm, k⟩
    simp [DS.mo, c1, atI, ixN, hm, div_many hm hm2]
  · have m1 := Int.emod_nonneg (d.s + 40692 * (d.c + 1)) (by decide : (2147483647 : Int) ≠ 0)
    have m2 := Int.emod_lt_of_pos (d.s + 40692 * (d.c + 1)) (by decide : (0 : Int) < 2147483647)
    generalize e1 : (d.s + 40692 * (d.c + 1)) % 2147483647 = u at *
    have m3 := Int.emod_nonneg (u ^ 5) (by decide : (2147483647 : Int) ≠ 0)
    have m4 := Int.emod_lt_of_pos (u ^ 5) (by decide : (0 : Int) < 2147483647)
    have m5 := Int.emod_nonneg (u ^ 5 % 2147483647 * 69621 + (d.c + 1)) (by decide : (2147483629 : Int) ≠ 0)
    have m6 := Int.emod_lt_of_pos (u ^ 5 % 2147483647 * 69621 + (d.c + 1)) (by decide : (0 : Int) < 2147483629)
    have k : DS.ok (n + 1) { d with s := (u ^ 5 % 2147483647 * 69621 + (d.c + 1)) % 2147483629, c := d.c + 1 } := ⟨h1, h2, h3, m5, by show (u ^ 5 % 2147483647 * 69621 + (d.c + 1)) % 2147483629 < 2147483647; omega, by show 0 ≤ d.c + 1; omega, by show d.c + 1 ≤ ((n + 1 : Nat) : Int); omega⟩
    refine ⟨(u ^ 5 % 2147483647 * 69621 + (d.c + 1)) % 2147483629 / 8 % many, _, .non, .val (.int (u ^ 5 % 2147483647)), ?_, Int.emod_nonneg _ (by omega), Int.emod_lt_of_pos _ hm, k⟩
    simp [DS.mo, c1, atI, ixN, hm, e1, mul64 (i := 40692) (j := d.c + 1) (by decide) (by omega), mul64 (i := u ^ 5 % 2147483647) (j := 69621) (by omega) (by decide), pow_5 (i := u) (by omega), div_8]
theorem head_ok {n : Nat} {d : DS} {many : Int} (h : d.ok n) :
    ∃ d' x, q__law_take_1 [.own true d.mo, .val (.int many), .non, .non, .non] = .nxt [.own true (DS.mo d'), .val (.int many), x, .non, .non] ∧ DS.ok n d' := by
  obtain ⟨h1, h2, h3, h4, h5, h6, h7⟩ := h
  by_cases c1 : d.h = 0
  · by_cases c2 : d.p < d.cells.length
    · have c3 : d.p.toNat < d.cells.length := by omega
      obtain ⟨z, hz⟩ : ∃ z, d.cells[d.p.toNat]'c3 = z := ⟨_, rfl⟩
      by_cases c4 : 1000000000000000000 ≤ z
      · have k : DS.ok n { d with p := d.p + 1, h := z % big } := ⟨by show 0 ≤ d.p + 1; omega, Int.emod_nonneg _ (by have := big_gt; omega), Int.emod_lt_of_pos _ (by have := big_gt; omega), h4, h5, h6, h7⟩
        refine ⟨_, .val (.int z), ?_, k⟩
        simp [DS.mo, c1, c2, h1, atI, ixN, hz, c4, pow_a, pow_b, pow_c, c3, big_eq]
      · have k : DS.ok n { d with p := d.p + 1, s := (d.s * 31 + z % 2147483629 + 1) % 2147483647 } := ⟨by show 0 ≤ d.p + 1; omega, h2, h3, Int.emod_nonneg _ (by decide), Int.emod_lt_of_pos _ (by decide), h6, h7⟩
        refine ⟨_, .val (.int z), ?_, k⟩
        simp [DS.mo, c1, c2, h1, atI, ixN, hz, c3, c4, pow_a, mul64 (i := d.s) (j := 31) (by omega) (by decide)]
    · refine ⟨d, .non, ?_, ⟨h1, h2, h3, h4, h5, h6, h7⟩⟩
      simp [DS.mo, c1, c2, atI, ixN]
  · refine ⟨d, .non, ?_, ⟨h1, h2, h3, h4, h5, h6, h7⟩⟩
    simp [DS.mo, c1, atI, ixN]
theorem take_ok {n : Nat} {d : DS} {many : Int} (h : d.ok n) (hn : n < 10 ^ 15) (hm : 0 < many) (hm2 : many < big) :
    ∃ r d', m__law_take [.own true d.mo, .val (.int many)] = .ok (.v (.int r)) [.own true (DS.mo d'), .val (.int many)] ∧ 0 ≤ r ∧ r < many ∧ DS.ok (n + 1) d' := by
  obtain ⟨d1, x, e1, k1⟩ := head_ok (many := many) h
  obtain ⟨r, d2, y, z, e2, r0, r1, k2⟩ := tail_ok (x := x) k1 hn hm hm2
  refine ⟨r, d2, ?_, r0, r1, k2⟩
  rw [em__law_take]
  rw [ev_seq] at e2
  simp only [List.length_cons, List.length_nil, if_true, enter, ev_seq]
  rw [show [Slot.own true d.mo, Slot.val (.int many)] ++ List.replicate (5 - (0 + 1 + 1)) Slot.non = [.own true d.mo, .val (.int many), .non, .non, .non] from rfl, e1, seq_nxt, ev_seq, e2]
  simp

theorem DS.ok.mono {n m : Nat} {d : DS} (h : d.ok n) (k : n ≤ m) : d.ok m := ⟨h.p0, h.h0, h.h1, h.s0, h.s1, h.c0, by have := h.c1; omega⟩
theorem lt_big {i : Int} (h : i < 10 ^ 60) : i < big := Int.lt_trans h big_gt
theorem lt_bigS {i : Int} (h : i < 1000000) : i < big := lt_big (Int.lt_trans h (by decide))
theorem cut63 (ns : List Int) : cutP (ns.map PV.int) none (some 63) = (ns.take 63).map PV.int := by
  unfold cutP
  rw [HT.sIx_none, show (some (63 : Int)) = some ((63 : Nat) : Int) from rfl, HT.sIx_nat, List.drop_zero, Nat.sub_zero, ← List.map_take]
  congr 1
  rw [List.length_map, Nat.min_comm, List.take_eq_take_iff]
  omega
def d0 (ns : List Int) : DS := ⟨ns.take 63, 0, 0, 1, 0⟩
theorem d0_ok (ns : List Int) : (d0 ns).ok 0 := ⟨Int.le_refl 0, Int.le_refl 0, Int.lt_trans (by decide : (0 : Int) < 10 ^ 60) big_gt, (by decide : (0 : Int) ≤ 1), (by decide : (1 : Int) < 2147483647), Int.le_refl 0, Int.le_refl 0⟩
theorem begin_ok (ns : List Int) : m__law_begin [.val (.lst (ns.map PV.int))] = .ok (.o (d0 ns).mo) [.val (.lst (ns.map PV.int))] := by
  rw [em__law_begin]
  have : 5 ≤ sizeLine := by rw [sizeLine_eq]; decide
  simp [enter, pySl, cut63, this, d0, DS.mo]

def chars94 : Str := ((" !\"#$&'()*+,-./0123456789:;<=>?@ABCDEFGHIJKLMNOPQRSTUVWXYZ[\\]^_`" : Str) ++ ("abcdefghijklmnopqrstuvwxyz{|}~" : Str))
theorem chars_len : (L chars94).length = 94 := by decide +kernel
/-- a text of the law: n signs of the 94 at most -/
structure TxOk (n : Nat) (s : Str) : Prop where
  len : (L s).length ≤ n
  all : ∀ c ∈ L s, c ∈ L chars94
theorem small_len {s : Str} {n : Nat} (h : (L s).length ≤ n) (hn : n ≤ 16777216) : s.length ≤ sizeLine := by
  rw [L_len]
  have : sizeLine = 16777216 := sizeLine_eq
  omega

theorem in_sign {c : Nat} {s : Str} : pyNotIn (.str ⟨#[c]⟩) (.str s) = some (.bl (!decide (c ∈ L s))) := by
  unfold pyNotIn inQ
  simp [L]

/-! ### the program's names and kinds -/
def letters : Str := "abcdefghijklmnopqrstuvwxyz"
def digits : Str := "0123456789"
def kept : List Str := ["and", "or", "not", "sure", "in", "is", "empty", "begins", "always", "never"]
theorem kept_is : c_KEPT_WORDS = kept.map PV.str := (rfl)
theorem kept_uni : ∀ s ∈ kept, Uni s := by
  show ∀ s ∈ kept, ∀ c ∈ L s, c < 1114112
  decide +kernel
theorem chars_is : ∀ c, c ∈ L c_CHARS ↔ c ∈ L chars94 := by
  have : L c_CHARS = L chars94 := by decide +kernel
  intro c
  rw [this]
/-- a string that may be asked -/
structure StOk (s : Str) : Prop where
  len : (L s).length ≤ 1000
  uni : Uni s
theorem StOk.sz {s : Str} (h : StOk s) : s.length ≤ sizeLine := small_len h.len (by decide)
theorem chars_uni : ∀ c ∈ L chars94, c < 1114112 := by decide +kernel
theorem TxOk.st {n : Nat} {s : Str} (h : TxOk n s) (hn : n ≤ 1000) : StOk s := ⟨by have := h.len; omega, fun c hc => chars_uni c (h.all c hc)⟩
def isTextB (s : Str) : Bool := (L s).all fun c => decide (c ∈ L chars94)
def nameB (s : Str) : Bool := decide (1 ≤ (L s).length) && decide ((L s).length ≤ 8) && ((L s).headD 0 ∈ L letters) && !decide (s ∈ kept) && ((L s).all fun c => decide (c ∈ L letters) || decide (c ∈ L digits))
def isText : PV → Bool
  | .str s => isTextB s
  | _ => false
def isName : PV → Bool
  | .str s => nameB s
  | _ => false
def isInt : PV → Bool
  | .int _ => true
  | _ => false
/-- a thing that may be asked: its texts are real -/
def Ask (v : PV) : Prop := ∀ s, v = .str s → StOk s
theorem p_istext {v : PV} (h : Ask v) : m_is_text [.val v] = .ok (.v (.bl (isText v))) [.val v] := by
  rw [em_is_text]
  cases v with
  | str s =>
    have st := all_signs (tg := tgN 1) (body := q_is_text_4) (fun c => decide (c ∈ L chars94)) (fun ρ => ∃ x, ρ = [.val (.str s), x] ∧ mp (some x) = true) (.v (.bl false)) ?_ ?_ (L s) [.val (.str s), .non] ⟨_, rfl, rfl⟩
    · obtain ⟨ρ2, ⟨x, rfl, hx⟩, e⟩ := st
      cases hb : (L s).all fun c => decide (c ∈ L chars94) with
      | true => simp [enter, chrs_is, e, isText, isTextB, hb]
      | false => simp [enter, chrs_is, e, isText, isTextB, hb]
    · rintro c ρ ⟨y, rfl, hy⟩ hx
      have hc := of_decide_eq_false hx
      exact ⟨[.val (.str s), .val (.str ⟨#[c]⟩)], [.val (.str s), .val (.str ⟨#[c]⟩)], by simp [hy], by simp [chars_is, hc], _, rfl, rfl⟩
    · rintro c ρ ⟨y, rfl, hy⟩ hx
      have hc := of_decide_eq_true hx
      exact ⟨[.val (.str s), .val (.str ⟨#[c]⟩)], [.val (.str s), .val (.str ⟨#[c]⟩)], by simp [hy], by simp [chars_is, hc], _, rfl, rfl⟩
  | _ => simp [enter, isText, isTy]
/-- the first sign -/
theorem ix0 {s : Str} {c : Nat} {r : List Nat} (hs : s.length ≤ sizeLine) (h : L s = c :: r) : pyIx (.str s) (.int 0) = some (.str ⟨#[c]⟩) := by
  rw [TR.ix_str, if_pos hs]
  have : s.cps.toList = c :: r := h
  rw [this]
  unfold atI ixN
  simp
theorem p_isname {v : PV} (h : Ask v) : m_is_name [.val v] = .ok (.v (.bl (isName v))) [.val v] := by
  rw [em_is_name]
  cases v with
  | str s =>
    have hs := h s rfl
    have sz := hs.sz
    have sl := L_len s
    have st := all_signs (tg := tgN 1) (body := q_is_name_6) (fun c => decide (c ∈ L letters) || decide (c ∈ L digits)) (fun ρ => ∃ x, ρ = [.val (.str s), x] ∧ mp (some x) = true) (.v (.bl false)) ?_ ?_ (L s) [.val (.str s), .non] ⟨_, rfl, rfl⟩
    · obtain ⟨ρ2, ⟨x, rfl, hx⟩, e⟩ := st
      by_cases c1 : 1 ≤ (L s).length
      · by_cases c2 : (L s).length ≤ 8
        · obtain ⟨c, r, hc⟩ : ∃ c r, L s = c :: r := by
            cases q : L s with
            | nil => rw [q] at c1; simp at c1
            | cons c r => exact ⟨c, r, rfl⟩
          have hi := ix0 sz hc
          have k1 : (1 : Int) ≤ (s.length : Int) := by omega
          have k2 : (s.length : Int) ≤ 8 := by omega
          have hk := in_tup hs.uni kept_uni
          rw [← kept_is] at hk
          have hl : L c_LETTERS = L letters := rfl
          have h0 : (L s).headD 0 = c := by rw [hc]; rfl
          by_cases c3 : c ∈ L letters
          · by_cases c4 : s ∈ kept
            · have : nameB s = false := by unfold nameB; simp [c4]
              simp [enter, isName, this, sz, k1, k2, hi, hk, hl, c3, c4]
            · cases hb : (L s).all fun c => decide (c ∈ L letters) || decide (c ∈ L digits) with
              | true =>
                have : nameB s = true := by unfold nameB; rw [hb, h0]; simp [c1, c2, c4, c3]
                simp [enter, isName, this, sz, k1, k2, hi, hk, hl, c3, c4, chrs_is, e, hb]
              | false =>
                have : nameB s = false := by unfold nameB; rw [hb]; simp
                simp [enter, isName, this, sz, k1, k2, hi, hk, hl, c3, c4, chrs_is, e, hb]
          · have : nameB s = false := by unfold nameB; rw [h0]; simp [c3]
            simp [enter, isName, this, sz, k1, k2, hi, hk, hl, c3]
        · have k1 : (1 : Int) ≤ (s.length : Int) := by omega
          have k2 : ¬ (s.length : Int) ≤ 8 := by omega
          have : nameB s = false := by unfold nameB; simp [c2]
          simp [enter, isName, this, sz, k1, k2]
      · have k1 : ¬ (1 : Int) ≤ (s.length : Int) := by omega
        have : nameB s = false := by unfold nameB; simp [c1]
        simp [enter, isName, this, sz, k1]
    · rintro c ρ ⟨y, rfl, hy⟩ hx
      rw [Bool.or_eq_false_iff] at hx
      have h1 : ¬ c ∈ L c_LETTERS := of_decide_eq_false hx.1
      have h2 : ¬ c ∈ L c_DIGITS := of_decide_eq_false hx.2
      exact ⟨[.val (.str s), .val (.str ⟨#[c]⟩)], [.val (.str s), .val (.str ⟨#[c]⟩)], by simp [hy], by simp [h1, h2], _, rfl, rfl⟩
    · rintro c ρ ⟨y, rfl, hy⟩ hx
      refine ⟨[.val (.str s), .val (.str ⟨#[c]⟩)], [.val (.str s), .val (.str ⟨#[c]⟩)], by simp [hy], ?_, _, rfl, rfl⟩
      rw [Bool.or_eq_true, decide_eq_true_eq, decide_eq_true_eq] at hx
      by_cases h1 : c ∈ L c_LETTERS
      · simp [h1]
      · have h2 : c ∈ L c_DIGITS := hx.resolve_left h1
        simp [h1, h2]
  | _ => simp [enter, isName, isTy]

/-! ### the law's names -/
def signs36 : Str := Str.ofString "abcdefghijklmnopqrstuvwxyz" ++ Str.ofString "0123456789"
structure Nm (n : Nat) (t : Str) : Prop where
  lo : 1 ≤ (L t).length
  hi : (L t).length ≤ n
  hd : (L t).headD 0 ∈ L letters
  all : ∀ c ∈ L t, c ∈ L letters ∨ c ∈ L digits
theorem Nm.name {t : Str} (h : Nm 8 t) (hk : t ∉ kept) : isName (.str t) = true := by
  show nameB t = true
  unfold nameB
  have h1 := h.lo
  have h2 := h.hi
  have h3 := h.hd
  have h4 : ((L t).all fun c => decide (c ∈ L letters) || decide (c ∈ L digits)) = true := by
    rw [List.all_eq_true]
    intro c hc
    have := h.all c hc
    simpa using this
  rw [h4]
  simp [h1, h2, hk]
  simpa using h3
theorem sg_small : (∀ c ∈ L letters, c < 128) ∧ ∀ c ∈ L digits, c < 128 := by decide +kernel
theorem Nm.uni {n : Nat} {t : Str} (h : Nm n t) : Uni t := fun c hc => by
  rcases h.all c hc with z | z
  · have := sg_small.1 c z
    omega
  · have := sg_small.2 c z
    omega
theorem Nm.snoc {n : Nat} {s : Str} {c : Nat} (h : Nm n s) (hc : c ∈ L signs36) : Nm (n + 1) (s ++ ⟨#[c]⟩) := by
  have h1 := h.lo
  have h2 := h.hi
  have hl : L (s ++ ⟨#[c]⟩) = L s ++ [c] := L_app s ⟨#[c]⟩
  refine ⟨?_, ?_, ?_, fun x hx => ?_⟩
  · rw [hl, List.length_append]; omega
  · rw [hl, List.length_append]; show _ + 1 ≤ _; omega
  · have h3 := h.hd
    rw [hl]
    cases q : L s with
    | nil => rw [q] at h1; simp at h1
    | cons a r => rw [q] at h3; exact h3
  · rw [hl] at hx
    rcases List.mem_append.mp hx with hx | hx
    · exact h.all x hx
    · rw [List.mem_singleton] at hx
      subst hx
      have e : L signs36 = L letters ++ L digits := L_app _ _
      rw [e] at hc
      exact List.mem_append.mp hc
theorem Nm.cut {n : Nat} {t : Str} (h : Nm n t) : Nm 6 (cutS t none (some 6)) := by
  have e := cut_upto t 6
  have e' : L (cutS t none (some 6)) = (L t).take 6 := e
  have h1 := h.lo
  refine ⟨?_, ?_, ?_, fun x hx => ?_⟩
  · rw [e', List.length_take]; omega
  · rw [e', List.length_take]; omega
  · rw [e']
    have h3 := h.hd
    cases q : L t with
    | nil => rw [q] at h1; simp at h1
    | cons a r => rw [q] at h3; exact h3
  · rw [e'] at hx
    exact h.all x (List.mem_of_mem_take hx)
def RNm (N : Nat) (v : Slot) (xs : List PV) (ρ : Ev) : Prop := ∃ d t x k n, ρ = [.own true (DS.mo d), v, .val (.str letters), .val (.str signs36), .val (.str t), x, .non] ∧ mp (some x) = true ∧ Nm (k + 1) t ∧ k + xs.length ≤ 7 ∧ d.ok n ∧ n + 10 * xs.length ≤ N
def QNm (N : Nat) (v : Slot) (so : SO) : Prop := ∃ d t x, so = .nxt [.own true (DS.mo d), v, .val (.str letters), .val (.str signs36), .val (.str t), x, .non] ∧ mp (some x) = true ∧ Nm 8 t ∧ d.ok N
theorem letters_len : (L letters).length = 26 := by decide +kernel
theorem signs36_len : (L signs36).length = 36 := by decide +kernel
theorem nm_loop {N : Nat} (hN : N < 10 ^ 15) (v : Slot) (xs : List PV) (ρ : Ev) (h : RNm N v xs ρ) : QNm N v (frL (tgN 5) q__law_name_5 xs ρ) := by
  have ssz := sizeLine_eq
  refine frL_rule (RNm N v) (QNm N v) ?_ ?_ xs ρ h
  · rintro x xs ρ ⟨d, t, x5, k, n, rfl, h4, ht, hk, hd, hn⟩
    simp only [List.length_cons] at hk hn
    have tl := ht.hi
    have oz : signs36.length ≤ sizeLine := small_len (n := 36) (by rw [signs36_len]; exact Nat.le_refl _) (by decide)
    obtain ⟨q, d2, e2, q0, q1, k2⟩ := take_ok (many := 36) hd (by omega) (by decide) (lt_bigS (by decide))
    obtain ⟨c, hc, ec⟩ := ix_sign (s := signs36) (i := q) oz q0 (by rw [signs36_len]; exact q1)
    have l1 : t.length + (⟨#[c]⟩ : Str).length ≤ sizeLine := by
      show (L t).length + 1 ≤ _
      omega
    refine ⟨[.own true (DS.mo d), v, .val (.str letters), .val (.str signs36), .val (.str t), .val x, .non], by simp [h4], .inl ⟨_, .inl (by simp [e2, ec, l1]; rfl), d2, _, _, k + 1, n + 1, rfl, rfl, ht.snoc hc, by omega, k2, by omega⟩⟩
  · rintro ρ ⟨d, t, x4, k, n, rfl, h4, ht, hk, hd, hn⟩
    exact ⟨d, t, x4, rfl, h4, ⟨ht.lo, by have := ht.hi; omega, ht.hd, ht.all⟩, hd.mono (by omega)⟩
def TkS (s : Slot) (ns : List Str) : Prop := s = .own true (.lst (ns.map .str)) ∨ s = .own false (.lst (ns.map .str)) ∨ s = .val (.lst (ns.map .str))
theorem kept_nodig : ∀ s ∈ kept, ∀ c ∈ L s, c ∉ L digits := by decide +kernel
def dg (k : Nat) : Str := Str.ofString (Int.repr k)
theorem dg_nodup : ((List.range 60).map fun k => L (dg k)).Nodup := by decide +kernel
theorem dg_len : ∀ k ∈ List.range 60, 1 ≤ (L (dg k)).length ∧ (L (dg k)).length ≤ 2 := by decide +kernel
theorem dg_all : ∀ k ∈ List.range 60, ∀ c ∈ L (dg k), c ∈ L digits := by decide +kernel
theorem Nm.dg {u : Str} {k : Nat} (h : Nm 6 u) (hk : k < 60) : Nm 8 (u ++ dg k) := by
  have hm : k ∈ List.range 60 := List.mem_range.mpr hk
  have h1 := dg_len k hm
  have h2 := dg_all k hm
  have hl : L (u ++ Gk.dg k) = L u ++ L (Gk.dg k) := L_app _ _
  have a1 := h.lo
  have a2 := h.hi
  refine ⟨by rw [hl, List.length_append]; omega, by rw [hl, List.length_append]; omega, ?_, fun x hx => ?_⟩
  · have h3 := h.hd
    rw [hl]
    cases q : L u with
    | nil => rw [q] at a1; simp at a1
    | cons a r => rw [q] at h3; exact h3
  · rw [hl] at hx
    rcases List.mem_append.mp hx with hx | hx
    · exact h.all x hx
    · exact .inr (h2 x hx)
theorem dg_nk {u : Str} {k : Nat} (hk : k < 60) : u ++ dg k ∉ kept := fun z => by
  have hm : k ∈ List.range 60 := List.mem_range.mpr hk
  have h1 := dg_len k hm
  have h2 := dg_all k hm
  have h3 := kept_nodig _ z
  rw [L_app] at h3
  cases q : L (dg k) with
  | nil => rw [q] at h1; simp at h1
  | cons a r =>
    rw [q] at h2 h3
    exact h3 a (List.mem_append_right _ List.mem_cons_self) (h2 a List.mem_cons_self)
theorem nodup_le {α : Type} [DecidableEq α] : ∀ {l ns : List α}, l.Nodup → (∀ x ∈ l, x ∈ ns) → l.length ≤ ns.length
  | [], _, _, _ => Nat.zero_le _
  | a :: l, ns, nd, h => by
    rw [List.nodup_cons] at nd
    have ha := h a List.mem_cons_self
    have := nodup_le (l := l) (ns := ns.erase a) nd.2 fun x hx => by
      have : x ≠ a := fun e => nd.1 (e ▸ hx)
      exact (List.mem_erase_of_ne this).mpr (h x (List.mem_cons_of_mem _ hx))
    rw [List.length_erase_of_mem ha] at this
    have hp := List.length_pos_of_mem ha
    simp only [List.length_cons]
    omega
theorem dg_free {u : Str} {ns : List Str} (h : ns.length < 60) : ∃ k < 60, u ++ dg k ∉ ns := by
  refine Classical.byContradiction fun hh => ?_
  have ha : ∀ k < 60, u ++ dg k ∈ ns := fun k hk => Classical.byContradiction fun z => hh ⟨k, hk, z⟩
  have nd : ((List.range 60).map fun k => u ++ dg k).Nodup := by
    have q := dg_nodup
    unfold List.Nodup at q ⊢
    rw [List.pairwise_map] at q ⊢
    refine q.imp fun {a b} hn e => hn ?_
    have e2 : L (u ++ dg a) = L (u ++ dg b) := by rw [e]
    rw [L_app, L_app] at e2
    exact List.append_cancel_left e2
  have := nodup_le nd fun x hx => by
    obtain ⟨k, hk, rfl⟩ := List.mem_map.mp hx
    exact ha k (List.mem_range.mp hk)
  rw [List.length_map, List.length_range] at this
  omega
theorem cut_loop {d : DS} {s : Slot} {ns : List Str} {u : Str} (hs : TkS s ns) (hn : ∀ t ∈ ns, Uni t) (hu : Nm 6 u) : ∀ (m j : Nat) (x : Slot), j + m = 60 → mp (some x) = true → (∃ k, j ≤ k ∧ k < 60 ∧ u ++ dg k ∉ ns) → ∃ k, k < 60 ∧ u ++ dg k ∉ ns ∧
    frL (tgN 5) q__law_name_10 (rng j m) [.own true (DS.mo d), s, .val (.str letters), .val (.str signs36), .val (.str u), x, .own false (.lst (kept.map .str))] =
      .ret (.v (.str (u ++ dg k))) [.own true (DS.mo d), s, .val (.str letters), .val (.str signs36), .val (.str u), .val (.int k), .own false (.lst (kept.map .str))]
  | 0, j, x, h, hx, ⟨k, h1, h2, _⟩ => by omega
  | m + 1, j, x, h, hx, ⟨k, h1, h2, h3⟩ => by
    have hj : j < 60 := by omega
    have nm := hu.dg hj
    have hm : j ∈ List.range 60 := List.mem_range.mpr hj
    have h4 := dg_len j hm
    have h5 := hu.hi
    have lu : u.length + (dg j).length ≤ sizeLine := by
      rw [sizeLine_eq]
      show (L u).length + (L (dg j)).length ≤ _
      omega
    have lg : j.log2 < 1920 := Nat.lt_of_le_of_lt (Nat.log2_le_self j) (by omega)
    have hnot : pyNotIn (.str (u ++ dg j)) (.lst (ns.map .str)) = some (.bl (!decide (u ++ dg j ∈ ns))) := by
      unfold pyNotIn
      rw [inQ_lst nm.uni hn]
      rfl
    have ed : Str.ofString (Int.repr j) = dg j := rfl
    rw [show rng (j : Int) (m + 1) = .int j :: rng ((j : Int) + 1) m from rfl]
    by_cases c : u ++ dg j ∈ ns
    · have hk : j ≠ k := fun e => h3 (e ▸ c)
      obtain ⟨k2, q1, q2, q3⟩ := cut_loop (d := d) hs hn hu m (j + 1) (.val (.int j)) (by omega) rfl ⟨k, by omega, h2, h3⟩
      refine ⟨k2, q1, q2, ?_⟩
      rw [← q3]
      have b : q__law_name_10 [.own true (DS.mo d), s, .val (.str letters), .val (.str signs36), .val (.str u), .val (.int j), .own false (.lst (kept.map .str))] = .nxt [.own true (DS.mo d), s, .val (.str letters), .val (.str signs36), .val (.str u), .val (.int j), .own false (.lst (kept.map .str))] := by
        rcases hs with rfl | rfl | rfl <;> simp [-List.map_cons, lg, ed, lu, hnot, c]
      exact frL_step (by simp [hx]) b
    · refine ⟨j, hj, c, ?_⟩
      have b : q__law_name_10 [.own true (DS.mo d), s, .val (.str letters), .val (.str signs36), .val (.str u), .val (.int j), .own false (.lst (kept.map .str))] = .ret (.v (.str (u ++ dg j))) [.own true (DS.mo d), s, .val (.str letters), .val (.str signs36), .val (.str u), .val (.int j), .own false (.lst (kept.map .str))] := by
        rcases hs with rfl | rfl | rfl <;> simp [-List.map_cons, lg, ed, lu, hnot, c]
      exact frL_stop (by simp [hx]) b
/-- a name of the law: fine, and none of those taken -/
theorem name_ok {n : Nat} {d : DS} {s : Slot} {ns : List Str} (h : d.ok n) (hn : n + 200 < 10 ^ 15) (hs : TkS s ns) (ht : ∀ t ∈ ns, Uni t) (hl : ns.length < 60) : ∃ t d', m__law_name [.own true d.mo, s] = .ok (.v (.str t)) [.own true (DS.mo d'), s] ∧ Nm 8 t ∧ t ∉ kept ∧ t ∉ ns ∧ DS.ok (n + 100) d' := by
  obtain ⟨r, d1, e1, r0, r1, k1⟩ := take_ok (many := 26) h (by omega) (by decide) (lt_bigS (by decide))
  have oz : letters.length ≤ sizeLine := small_len (n := 26) (by rw [letters_len]; exact Nat.le_refl _) (by decide)
  obtain ⟨c, hc, ec⟩ := ix_sign (s := letters) (i := r) oz r0 (by rw [letters_len]; exact r1)
  obtain ⟨q, d2, e2, q0, q1, k2⟩ := take_ok (many := 8) k1 (by omega) (by decide) (lt_bigS (by decide))
  have ok : okR q = true := okR_small (by omega) (by omega)
  obtain ⟨d3, t, x5, e3, h5, htt, k3⟩ := nm_loop (N := n + 100) (by omega) s (rng 0 q.toNat) _ ⟨d2, ⟨#[c]⟩, .non, 0, n + 1 + 1, rfl, rfl, ⟨by show 1 ≤ 1; omega, by show 1 ≤ 1; omega, hc, fun x hx => by
    rw [show L (⟨#[c]⟩ : Str) = [c] from rfl, List.mem_singleton] at hx
    rw [hx]; exact .inl hc⟩, by rw [rng_len]; omega, k2, by rw [rng_len]; omega⟩
  have el : Str.ofString "abcdefghijklmnopqrstuvwxyz" = letters := rfl
  have es : letters ++ Str.ofString "0123456789" = signs36 := rfl
  have lz : letters.length + (Str.ofString "0123456789").length ≤ sizeLine := by rw [sizeLine_eq]; decide +kernel
  have kl : ([.str (Str.ofString "and"), .str (Str.ofString "or"), .str (Str.ofString "not"), .str (Str.ofString "sure"), .str (Str.ofString "in"), .str (Str.ofString "is"), .str (Str.ofString "empty"), .str (Str.ofString "begins"), .str (Str.ofString "always"), .str (Str.ofString "never")] : List PV) = kept.map PV.str := rfl
  have ten : kept.length ≤ sizeLine := by rw [sizeLine_eq]; decide
  have hk := in_lst htt.uni kept_uni
  have hin := in_lst htt.uni ht
  have cutc : ∀ (hcc : t ∈ kept ∨ t ∈ ns), ∃ t' d', m__law_name [.own true d.mo, s] = .ok (.v (.str t')) [.own true (DS.mo d'), s] ∧ Nm 8 t' ∧ t' ∉ kept ∧ t' ∉ ns ∧ DS.ok (n + 100) d' := by
    intro hcc
    have hcut := htt.cut
    have tz : t.length ≤ sizeLine := small_len (n := 8) htt.hi (by decide)
    generalize hu : cutS t none (some 6) = u at hcut
    have o60 : okR 60 = true := okR_small (by omega) (by omega)
    obtain ⟨kk, k0, k1⟩ := dg_free (u := u) hl
    obtain ⟨k, g1, g2, g3⟩ := cut_loop (d := d3) hs ht hcut 60 0 x5 rfl h5 ⟨kk, Nat.zero_le _, k0, k1⟩
    have g3' : frL (tgN 5) q__law_name_10 (rng 0 60) [.own true (DS.mo d3), s, .val (.str letters), .val (.str signs36), .val (.str u), x5, .own false (.lst (kept.map .str))] = _ := g3
    refine ⟨u ++ dg k, d3, ?_, hcut.dg g1, dg_nk g1, g2, k3⟩
    rw [em__law_name]
    by_cases c4 : t ∈ kept
    · rcases hs with rfl | rfl | rfl <;> simp [-List.map_cons, enter, el, es, lz, e1, ec, e2, ok, e3, kl, ten, hk, c4, pySl, tz, hu, o60, g3']
    · have c5 : t ∈ ns := hcc.resolve_left c4
      rcases hs with rfl | rfl | rfl <;> simp [-List.map_cons, enter, el, es, lz, e1, ec, e2, ok, e3, kl, ten, hk, c4, hin, c5, pySl, tz, hu, o60, g3']
  by_cases c4 : t ∈ kept
  · exact cutc (.inl c4)
  · by_cases c5 : t ∈ ns
    · exact cutc (.inr c5)
    · refine ⟨t, d3, ?_, htt, c4, c5, k3⟩
      rw [em__law_name]
      rcases hs with rfl | rfl | rfl <;> simp [-List.map_cons, enter, el, es, lz, e1, ec, e2, ok, e3, kl, ten, hk, c4, hin, c5]
end Gk

set_option Elab.async false
set_option linter.all false
set_option maxRecDepth 100000
namespace Gk
open PySem PySem.Spec L2 TR
set_option autoImplicit false
@[simp] theorem tr_tup (xs : List PV) : pyTruth (.tup xs) = some (!xs.isEmpty) := (rfl)
@[simp] theorem tr_lst (xs : List PV) : pyTruth (.lst xs) = some (!xs.isEmpty) := (rfl)
theorem one_le : 1 ≤ sizeLine := by rw [sizeLine_eq]; decide
theorem two_le : 2 ≤ sizeLine := by rw [sizeLine_eq]; decide
theorem three_le : 3 ≤ sizeLine := by rw [sizeLine_eq]; decide
theorem nat_le {n : Nat} (h : n ≤ 1000000) : n ≤ sizeLine := by rw [sizeLine_eq]; omega
theorem nat_lt {n : Nat} (h : n < 1000000) : n < sizeLine := by rw [sizeLine_eq]; omega

/-! ### the law's columns -/
def kdS (b : Bool) : Str := if b then Str.ofString "text" else Str.ofString "number"
/-- a column: its name, whether of texts, whether filled -/
abbrev Col := Str × Bool × Bool
def colP (c : Col) : PV := .tup [.str c.1, .str (kdS c.2.1), .bl c.2.2]
structure ColsOk (cs : List Col) : Prop where
  nm : ∀ c ∈ cs, Nm 8 c.1
  nk : ∀ c ∈ cs, c.1 ∉ kept
  nd : (cs.map (·.1)).Nodup
theorem ColsOk.nil : ColsOk [] := ⟨(fun _ h => by cases h), (fun _ h => by cases h), List.nodup_nil⟩
theorem ColsOk.snoc {cs : List Col} (h : ColsOk cs) {c : Col} (h1 : Nm 8 c.1) (h2 : c.1 ∉ kept) (h3 : c.1 ∉ cs.map (·.1)) : ColsOk (cs ++ [c]) := by
  refine ⟨fun x hx => ?_, fun x hx => ?_, ?_⟩
  · rcases List.mem_append.mp hx with hx | hx
    · exact h.nm x hx
    · rw [List.mem_singleton] at hx; rw [hx]; exact h1
  · rcases List.mem_append.mp hx with hx | hx
    · exact h.nk x hx
    · rw [List.mem_singleton] at hx; rw [hx]; exact h2
  · rw [List.map_append, List.nodup_append]
    refine ⟨h.nd, by simp, fun a ha b hb e => ?_⟩
    rw [List.map_cons, List.map_nil, List.mem_singleton] at hb
    rw [e, hb] at ha
    exact h3 ha
def nmsP (cs : List Col) : List PV := (cs.map (·.1)).map .str
theorem nms_snoc (cs : List Col) (c : Col) : nmsP (cs ++ [c]) = nmsP cs ++ [.str c.1] := by simp [nmsP]
theorem cols_snoc (cs : List Col) (c : Col) : (cs ++ [c]).map colP = cs.map colP ++ [.tup [.str c.1, .str (kdS c.2.1), .bl c.2.2]] := by simp [colP]
theorem two_ix {r : Int} (r0 : 0 ≤ r) (r1 : r < 2) (x y : PV) : pyIx (.lst [x, y]) (.int r) = some (if r = 0 then x else y) := by
  have h : r = 0 ∨ r = 1 := by omega
  rcases h with rfl | rfl
  · exact ix0c x [y]
  · exact ix1c x y []
theorem eq0_int (r : Int) : pyEq (.int r) (.int 0) = some (.bl (decide (r = 0))) := by simp
theorem kd_ite (r : Int) : (if r = 0 then PV.str (Str.ofString "number") else PV.str (Str.ofString "text")) = .str (kdS (decide (¬ r = 0))) := by
  by_cases h : r = 0
  · subst h; rfl
  · simp [kdS, h]

theorem kd_num : kdS false = Str.ofString "number" := rfl
theorem kd_txt : kdS true = Str.ofString "text" := rfl
theorem kd_tt : (kdS true = Str.ofString "text") = True := eq_true rfl
theorem kd_nn : (kdS false = Str.ofString "number") = True := eq_true rfl
theorem kd_nt : ¬ kdS true = Str.ofString "number" := by decide
theorem kd_tn : ¬ kdS false = Str.ofString "text" := by decide
theorem kd_inj {a b : Bool} : (kdS a = kdS b) ↔ a = b := by revert a b; decide
theorem fm_cmp {α : Type} {vs : List Nat} {tg : Tg} {t : EM Bool} {e : EM PV} (f g : α → PV) (p : α → Bool) (ρ : Ev) (as : List α) (st : ∀ a ∈ as, ∃ ρ1, tg (f a) (wipeE ρ vs) = some ρ1 ∧ t ρ1 = .ok (p a) ρ1 ∧ (p a = true → e ρ1 = .ok (g a) ρ1) ∧ restE ρ vs ρ1 = ρ) :
    ∀ (ys : List α) (acc : List PV), (∀ x ∈ ys, x ∈ as) → acc.length + ys.length ≤ 1000000 → cmpL vs tg t e (ys.map f) acc ρ = .ok (acc ++ (ys.filter p).map g) ρ := by
  have sz := sizeLine_eq
  intro ys
  induction ys with
  | nil => intro acc _ _; simp
  | cons x ys ih =>
    intro acc hm hl
    simp only [List.length_cons] at hl
    obtain ⟨ρ1, e1, e2, e3, e4⟩ := st x (hm x List.mem_cons_self)
    rw [List.map_cons, cmpL]
    simp only [e1, e2, noX, Out.bind_ok]
    cases h : p x with
    | true =>
      have : acc.length < sizeLine := by omega
      simp only [e3 h, Out.bind_ok, if_pos this, e4]
      rw [ih _ (fun y hy => hm y (List.mem_cons_of_mem _ hy)) (by simp; omega), List.filter_cons_of_pos h]
      simp
    | false =>
      simp only [e4]
      rw [ih _ (fun y hy => hm y (List.mem_cons_of_mem _ hy)) (by omega), List.filter_cons_of_neg (by simp [h])]
theorem ix_of {xs : List PV} {i : Int} (h0 : 0 ≤ i) (h1 : i < xs.length) : ∃ x ∈ xs, pyIx (.lst xs) (.int i) = some x := by
  have hl : i.toNat < xs.length := by omega
  refine ⟨xs[i.toNat], List.getElem_mem _, ?_⟩
  show atI xs i = _
  unfold atI ixN
  rw [if_pos h0, if_pos h1]
  exact List.getElem?_eq_getElem hl
theorem ix_map {α : Type} {f : α → PV} {xs : List α} {i : Int} (h0 : 0 ≤ i) (h1 : i < xs.length) : ∃ x ∈ xs, pyIx (.lst (xs.map f)) (.int i) = some (f x) := by
  obtain ⟨y, hy, e⟩ := ix_of (xs := xs.map f) h0 (by simpa using h1)
  obtain ⟨x, hx, rfl⟩ := List.mem_map.mp hy
  exact ⟨x, hx, e⟩
theorem col_i0 (c : Col) : pyIx (colP c) (.int 0) = some (.str c.1) := ix0c _ _
theorem col_i1 (c : Col) : pyIx (colP c) (.int 1) = some (.str (kdS c.2.1)) := ix1c _ _ _

theorem Nm.ask {n : Nat} {t : Str} (h : Nm n t) (hn : n ≤ 1000) : Ask (.str t) := fun s e => by
  cases e
  exact ⟨by have := h.hi; omega, h.uni⟩
/-- a name of the law -/
def NmOk (c : Str) : Prop := Nm 8 c ∧ c ∉ kept
theorem NmOk.name {c : Str} (h : NmOk c) : isName (.str c) = true := h.1.name h.2
theorem NmOk.ask {c : Str} (h : NmOk c) : Ask (.str c) := h.1.ask (by decide)
theorem ColsOk.nm1 {cs : List Col} (h : ColsOk cs) {c : Str} {k f : Bool} (hc : (c, k, f) ∈ cs) : NmOk c := ⟨h.nm _ hc, h.nk _ hc⟩
theorem ix2c (x y z : PV) (xs : List PV) : atI (x :: y :: z :: xs) 2 = some z := by
  unfold atI ixN
  rw [if_pos (by decide), if_pos (by simp; omega)]
  rfl
theorem ix3c (x y z u : PV) (xs : List PV) : atI (x :: y :: z :: u :: xs) 3 = some u := by
  unfold atI ixN
  rw [if_pos (by decide), if_pos (by simp; omega)]
  rfl
theorem ix4c (x y z u w : PV) (xs : List PV) : atI (x :: y :: z :: u :: w :: xs) 4 = some w := by
  unfold atI ixN
  rw [if_pos (by decide), if_pos (by simp; omega)]
  rfl

theorem ty_ll (xs : List PV) : isTy (.lst xs) .list = true := rfl
theorem ty_tt (xs : List PV) : isTy (.tup xs) .tuple = true := rfl
theorem is_seq_lst (xs : List PV) : m_is_sequence [.val (.lst xs)] = .ok (.v (.bl true)) [.val (.lst xs)] := by
  rw [em_is_sequence]
  simp [enter, ty_ll, ty_tt]
theorem is_seq_tup (xs : List PV) : m_is_sequence [.val (.tup xs)] = .ok (.v (.bl true)) [.val (.tup xs)] := by
  rw [em_is_sequence]
  simp [enter, ty_ll, ty_tt]

def SeqP (x : PV) (xs : List PV) : Prop := x = .lst xs ∨ x = .tup xs
@[simp] theorem add_lst (xs ys : List PV) : pyAdd (.lst xs) (.lst ys) = if xs.length + ys.length ≤ sizeLine then some (.lst (xs ++ ys)) else none := (rfl)
@[simp] theorem add_tup (xs ys : List PV) : pyAdd (.tup xs) (.tup ys) = if xs.length + ys.length ≤ sizeLine then some (.tup (xs ++ ys)) else none := (rfl)

/-! ### shapes are made -/
theorem fm_cmpG {α : Type} {io : Nat} {s : Slot} {vs : List Nat} {tg : Tg} {t : EM Bool} {e : EM PV} (f g : α → PV) (p : α → Bool) (ρ : Ev) (hs : ρ[io]? = some s) (as : List α) (st : ∀ a ∈ as, ∃ ρ1, tg (f a) (wipeE ρ vs) = some ρ1 ∧ t ρ1 = .ok (p a) ρ1 ∧ (p a = true → e ρ1 = .ok (g a) ρ1) ∧ restE ρ vs ρ1 = ρ) :
    ∀ (ys : List α) (acc : List PV), (∀ x ∈ ys, x ∈ as) → acc.length + ys.length ≤ 1000000 → cmpLG io s vs tg t e (ys.map f) acc ρ = .ok (acc ++ (ys.filter p).map g) ρ := by
  have sz := sizeLine_eq
  intro ys
  induction ys with
  | nil =>
    intro acc _ _
    rw [List.map_nil, cmpLG]
    simp [hs]
  | cons x ys ih =>
    intro acc hm hl
    simp only [List.length_cons] at hl
    obtain ⟨ρ1, e1, e2, e3, e4⟩ := st x (hm x List.mem_cons_self)
    rw [List.map_cons, cmpLG]
    simp only [hs, if_pos, e1, e2, noX, Out.bind_ok]
    cases h : p x with
    | true =>
      have : acc.length < sizeLine := by omega
      simp only [e3 h, Out.bind_ok, if_pos this, e4]
      rw [ih _ (fun y hy => hm y (List.mem_cons_of_mem _ hy)) (by simp; omega), List.filter_cons_of_pos h]
      simp
    | false =>
      simp only [e4]
      rw [ih _ (fun y hy => hm y (List.mem_cons_of_mem _ hy)) (by omega), List.filter_cons_of_neg (by simp [h])]
theorem kds_uni : ∀ s ∈ [Str.ofString "number", Str.ofString "text"], Uni s := by
  show ∀ s ∈ [Str.ofString "number", Str.ofString "text"], ∀ c ∈ L s, c < 1114112
  decide
theorem is_flag_ok (b : Bool) : m_is_flag [.val (.bl b)] = .ok (.v (.bl true)) [.val (.bl b)] := by
  rw [em_is_flag]
  simp [enter, isTy]
theorem is_column_ok {c : Col} (h : NmOk c.1) : m_is_column [.val (colP c)] = .ok (.v (.bl true)) [.val (colP c)] := by
  have a := p_isname h.ask
  rw [h.name] at a
  have s := is_seq_tup [.str c.1, .str (kdS c.2.1), .bl c.2.2]
  have km : kdS c.2.1 ∈ [Str.ofString "number", Str.ofString "text"] := by cases c.2.1 <;> simp [kdS]
  have i : pyIn (.str (kdS c.2.1)) (.tup [.str (Str.ofString "number"), .str (Str.ofString "text")]) = some (.bl true) := by
    have := in_tup (kds_uni _ km) kds_uni
    rw [decide_eq_true km] at this
    exact this
  rw [em_is_column]
  simp [enter, colP, s, three_le, two_le, ix0c, ix1c, ix2c, a, i, is_flag_ok, isTy]
theorem enumP_cons (i : Nat) (x : PV) (xs : List PV) : enumP i (x :: xs) = .tup [.int (i : Nat), x] :: enumP (i + 1) xs := rfl
theorem read_loop {s0 : Slot} : ∀ (cs pre : List Col) (x2 x3 : Slot), (∀ c ∈ pre ++ cs, NmOk c.1) → ((pre ++ cs).map (·.1)).Nodup → pre.length + cs.length ≤ 1000 → mp (some x2) = true → mp (some x3) = true →
    ∃ y2 y3, frL (tgT [2, 3]) (seqM q_read_columns_5 q_read_columns_7) (enumP pre.length (cs.map colP)) [s0, .own false (.lst (pre.map colP)), x2, x3, .non] = .nxt [s0, .own false (.lst ((pre ++ cs).map colP)), y2, y3, .non]
  | [], pre, x2, x3, _, _, _, _, _ => ⟨x2, x3, by rw [List.map_nil, enumP, frL, List.append_nil]⟩
  | c :: cs, pre, x2, x3, hn, nd, hl, h2, h3 => by
    simp only [List.length_cons] at hl
    have e0 : pre ++ c :: cs = (pre ++ [c]) ++ cs := by simp
    obtain ⟨y2, y3, e⟩ := read_loop (s0 := s0) cs (pre ++ [c]) (.val (.int (pre.length : Nat))) (.val (colP c)) (by rw [← e0]; exact hn) (by rw [← e0]; exact nd) (by simp; omega) rfl rfl
    refine ⟨y2, y3, ?_⟩
    have ic := is_column_ok (hn c (by simp))
    have hnot : c.1 ∉ pre.map (·.1) := fun z => by
      rw [List.map_append, List.nodup_append] at nd
      exact nd.2.2 c.1 z c.1 (by simp) rfl
    have hpu : ∀ t ∈ pre.map (·.1), Uni t := fun t ht => by
      obtain ⟨d, hd, rfl⟩ := List.mem_map.mp ht
      exact (hn d (by simp [hd])).1.uni
    have ii := in_lst (hn c (by simp)).1.uni hpu
    rw [decide_eq_false hnot] at ii
    have cm := fm_cmpG (io := 1) (s := .own false (.lst (pre.map colP))) (vs := [4]) (tg := tgN 4) (t := noT) (e := binN pyIx 4 (cst (.int 0))) colP (fun c => PV.str c.1) (fun _ => true) [s0, .own false (.lst (pre.map colP)), .val (.int (pre.length : Nat)), .val (colP c), .non] rfl pre (fun d _ => by
      refine ⟨[s0, .own false (.lst (pre.map colP)), .val (.int (pre.length : Nat)), .val (colP c), .val (colP d)], by simp, rfl, fun _ => by simp [col_i0], by simp⟩) pre [] (fun _ h => h) (by simp; omega)
    have fl : (pre.filter fun _ => true) = pre := List.filter_eq_self.mpr fun _ _ => rfl
    rw [fl, List.nil_append, show pre.map (fun c => PV.str c.1) = (pre.map (·.1)).map PV.str by simp] at cm
    have j0 := col_i0 c
    have sz : pre.length < sizeLine := nat_lt (by omega)
    have tp : bTup [colP c] = some (colP c) := rfl
    rw [List.map_cons, enumP_cons, e0, show pre.length + 1 = (pre ++ [c]).length by simp, ← e]
    refine frL_step (ρ1 := [s0, .own false (.lst (pre.map colP)), .val (.int (pre.length : Nat)), .val (colP c), .non]) ?_ ?_
    · simp [tgT, putsT, h2, h3]
    · simp [-List.map_map, ic, j0, cm, ii, sz, tp]
theorem read_columns_ok {cs : List Col} (h : ColsOk cs) (h1 : 1 ≤ cs.length) (h2 : cs.length ≤ 12) {x : PV} (hx : SeqP x (cs.map colP)) : m_read_columns [.val x] = .ok (.v (.tup (cs.map colP))) [.val x] := by
  obtain ⟨y2, y3, e⟩ := read_loop (s0 := .val x) cs [] .non .non (fun c hc => ⟨h.nm c (by simpa using hc), h.nk c (by simpa using hc)⟩) (by simpa using h.nd) (by simp; omega) rfl rfl
  simp only [List.nil_append, List.map_nil, List.length_nil] at e
  have sz : cs.length ≤ sizeLine := nat_le (by omega)
  have i1 : (1 : Int) ≤ (cs.length : Int) := by omega
  have i2 : (cs.length : Int) ≤ 12 := by omega
  have s1 := is_seq_lst (cs.map colP)
  have s2 := is_seq_tup (cs.map colP)
  rw [em_read_columns]
  rcases hx with rfl | rfl <;> simp [enter, s1, s2, sz, i1, i2, e]
def shapeO (cs cks uks : PV) : List (Str × PV) := [(Str.ofString "_columns", cs), (Str.ofString "_checks", cks), (Str.ofString "_unique", uks)]
theorem read_checks0 (x : PV) : m_read_checks [.val x, .val (.tup [])] = .ok (.v (.tup [])) [.val x, .val (.tup [])] := by
  have s2 := is_seq_tup []
  rw [em_read_checks]
  simp [enter, s2, enumP]
theorem read_keys0 (x : PV) : m_read_keys [.val x, .val (.tup [])] = .ok (.v (.tup [])) [.val x, .val (.tup [])] := by
  have s2 := is_seq_tup []
  rw [em_read_keys]
  simp [enter, s2, enumP]
theorem mk_shape0 {cs : List Col} (h : ColsOk cs) (h1 : 1 ≤ cs.length) (h2 : cs.length ≤ 12) {x : PV} (hx : SeqP x (cs.map colP)) :
    m_Shape____init__ [.own true (.obj 5 []), .val x, .val (.tup []), .val (.tup [])] = .ok (.v .non) [.own true (.obj 5 (shapeO (.tup (cs.map colP)) (.tup []) (.tup []))), .val x, .val (.tup []), .val (.tup [])] := by
  have e := read_columns_ok h h1 h2 hx
  have p1 : ∀ x : PV, putFP (Str.ofString "_columns") x [] = [(Str.ofString "_columns", x)] := fun _ => rfl
  have p2 : ∀ x y : PV, putFP (Str.ofString "_checks") x [(Str.ofString "_columns", y)] = [(Str.ofString "_columns", y), (Str.ofString "_checks", x)] := fun _ _ => rfl
  have p3 : ∀ x y z : PV, putFP (Str.ofString "_unique") x [(Str.ofString "_columns", y), (Str.ofString "_checks", z)] = [(Str.ofString "_columns", y), (Str.ofString "_checks", z), (Str.ofString "_unique", x)] := fun _ _ _ => rfl
  have l1 : ∀ x : PV, List.lookup (Str.ofString "_columns") [(Str.ofString "_columns", x)] = some x := fun _ => rfl
  have l2 : ∀ x y : PV, List.lookup (Str.ofString "_columns") [(Str.ofString "_columns", x), (Str.ofString "_checks", y)] = some x := fun _ _ => rfl
  rw [em_Shape____init__]
  simp [enter, e, p1, p2, p3, l1, l2, read_checks0, read_keys0, shapeO]

/-! ### lists and tuples of things -/
def itemsOf : PV → Option (List PV)
  | .lst xs => some xs
  | .tup xs => some xs
  | _ => none
/-- the name of a part -/
def pnm : PV → Str
  | .tup (.str n :: _) => n
  | .lst (.str n :: _) => n
  | _ => Str.ofString ""
def toT : PV → PV
  | .lst xs => .tup xs
  | x => x
/-- what may stand for a part -/
def PtAsk (x : PV) : Prop := ∀ xs, itemsOf x = some xs → xs.length ≤ 100 ∧ ∀ a ∈ xs, Ask a
def isSeq (x : PV) : Bool := (itemsOf x).isSome
theorem is_seq (x : PV) : m_is_sequence [.val x] = .ok (.v (.bl (isSeq x))) [.val x] := by
  rw [em_is_sequence]
  cases x <;> simp [enter, isSeq, itemsOf, isTy]
theorem len_items {x : PV} {xs : List PV} (h : itemsOf x = some xs) : bLen [x] = some (.int xs.length) := by
  cases x <;> cases h <;> rfl
theorem ix_items {x : PV} {xs : List PV} (h : itemsOf x = some xs) (i : Int) : pyIx x (.int i) = atI xs i := by
  cases x <;> cases h <;> rfl
theorem ty_items {x : PV} {xs : List PV} (h : itemsOf x = some xs) : (isTy x .list || isTy x .tuple) = true := by
  cases x <;> cases h <;> rfl
theorem ty_no {x : PV} (h : itemsOf x = none) : isTy x .list = false ∧ isTy x .tuple = false := by
  cases x <;> first | exact ⟨rfl, rfl⟩ | cases h
theorem frL_exc {tg : Tg} {body : SM} {x : PV} {xs : List PV} {ρ ρ1 ρ2 : Ev} {e : Ex} (h : tg x ρ = some ρ1) (hb : body ρ1 = .exc e ρ2) : frL tg body (x :: xs) ρ = .exc e ρ2 := by
  rw [frL]
  simp only [h, hb]
  rfl

/-! ### shapes without rules, their names -/
def shp (cs : List Col) : PV := .obj 5 (shapeO (.tup (cs.map colP)) (.tup []) (.tup []))
theorem sh_names {cs : List Col} (hl : cs.length ≤ 1000) : m_Shape__names [.val (shp cs)] = .ok (.o (.lst ((cs.map (·.1)).map PV.str))) [.val (shp cs)] := by
  have l : ∀ x y z : PV, List.lookup (Str.ofString "_columns") (shapeO x y z) = some x := fun _ _ _ => rfl
  have cm := fm_cmp (vs := [1]) (tg := tgN 1) (t := noT) (e := binN pyIx 1 (cst (.int 0))) colP (fun c => PV.str c.1) (fun _ => true) [.val (shp cs), .non] cs (fun c _ => by
    refine ⟨[.val (shp cs), .val (colP c)], by simp, rfl, fun _ => by simp [col_i0], by simp⟩) cs [] (fun _ h => h) (by simp; omega)
  have fl : (cs.filter fun _ => true) = cs := List.filter_eq_self.mpr fun _ _ => rfl
  rw [fl, List.nil_append, show cs.map (fun c => PV.str c.1) = (cs.map (·.1)).map PV.str by simp] at cm
  rw [em_Shape__names]
  unfold shp at cm ⊢
  simp [-List.map_map, enter, l, cm]
theorem lkS_names (x y z : PV) : (shapeO x y z).lookup (Str.ofString "names") = none := (rfl)
@[simp] theorem lk35_5 (a b : FM) : List.lookup 5 [(3, a), (5, b)] = some b := (rfl)
@[simp] theorem lk35_3 (a b : FM) : List.lookup 3 [(3, a), (5, b)] = some a := (rfl)
end Gk

set_option Elab.async false
set_option linter.all false
set_option maxRecDepth 100000
namespace Gk
open PySem PySem.Spec L2 TR
set_option autoImplicit false
/-! ### things in the place of columns -/
def isKd : PV → Bool
  | .str w => decide (w = Str.ofString "number") || decide (w = Str.ofString "text")
  | _ => false
def isFlg : PV → Bool
  | .bl _ => true
  | _ => false
def tripB : List PV → Bool
  | [a, b, c] => isName a && isKd b && isFlg c
  | _ => false
def isCol (x : PV) : Bool := match itemsOf x with
  | some xs => tripB xs
  | none => false
theorem isC_len {x : PV} {xs : List PV} (h : itemsOf x = some xs) (hl : xs.length ≠ 3) : isCol x = false := by
  unfold isCol
  rw [h]
  match xs, hl with
  | [], _ => rfl
  | [_], _ => rfl
  | [_, _], _ => rfl
  | _ :: _ :: _ :: _ :: _, _ => rfl
theorem isC_three {x a b c : PV} (h : itemsOf x = some [a, b, c]) : isCol x = (isName a && isKd b && isFlg c) := by
  unfold isCol
  rw [h]
  rfl
theorem isC_no {x : PV} (h : itemsOf x = none) : isCol x = false := by
  unfold isCol
  rw [h]
theorem flg_ok (x : PV) : m_is_flag [.val x] = .ok (.v (.bl (isFlg x))) [.val x] := by
  rw [em_is_flag]
  cases x <;> simp [enter, isTy, isFlg]
theorem kd_in (w : Str) (hw : Uni w) : pyIn (.str w) (.tup [.str (Str.ofString "number"), .str (Str.ofString "text")]) = some (.bl (isKd (.str w))) := by
  have := in_tup hw kds_uni
  rw [show isKd (.str w) = decide (w ∈ [Str.ofString "number", Str.ofString "text"]) by simp [isKd]]
  exact this
theorem is_column_any {x : PV} (h : PtAsk x) : m_is_column [.val x] = .ok (.v (.bl (isCol x))) [.val x] := by
  have sq := is_seq x
  rw [em_is_column]
  cases hi : itemsOf x with
  | none =>
    have : isSeq x = false := by unfold isSeq; rw [hi]; rfl
    rw [this] at sq
    simp [enter, sq, isC_no hi]
  | some xs =>
    have : isSeq x = true := by unfold isSeq; rw [hi]; rfl
    rw [this] at sq
    have le := len_items hi
    obtain ⟨h1, h2⟩ := h xs hi
    by_cases hl : xs.length = 3
    · match xs, hl with
      | [a, b, c], _ =>
        have j0 := ix_items hi 0
        have j1 := ix_items hi 1
        have j2 := ix_items hi 2
        rw [ix0c] at j0
        rw [ix1c] at j1
        rw [ix2c] at j2
        have nm := p_isname (h2 a (by simp))
        have fg := flg_ok c
        have e := isC_three hi
        rw [e]
        cases hn : isName a with
        | false =>
          rw [hn] at nm
          simp [enter, sq, le, j0, nm]
        | true =>
          rw [hn] at nm
          cases b with
          | str w =>
            have ii := kd_in w (h2 (.str w) (by simp) w rfl).uni
            cases hk : isKd (.str w) <;> rw [hk] at ii <;> simp [enter, sq, le, j0, j1, j2, nm, ii, fg, two_le, show isTy (PV.str w) .str = true from rfl]
          | non => simp [enter, sq, le, j0, j1, nm, isKd, show isTy PV.non .str = false from rfl]
          | bl b => simp [enter, sq, le, j0, j1, nm, isKd, show isTy (PV.bl b) .str = false from rfl]
          | int b => simp [enter, sq, le, j0, j1, nm, isKd, show isTy (PV.int b) .str = false from rfl]
          | lst b => simp [enter, sq, le, j0, j1, nm, isKd, show isTy (PV.lst b) .str = false from rfl]
          | tup b => simp [enter, sq, le, j0, j1, nm, isKd, show isTy (PV.tup b) .str = false from rfl]
          | dct b => simp [enter, sq, le, j0, j1, nm, isKd, show isTy (PV.dct b) .str = false from rfl]
          | obj c0 b => simp [enter, sq, le, j0, j1, nm, isKd, show isTy (PV.obj c0 b) .str = false from rfl]
    · have e := isC_len hi hl
      have hl' : ¬ (xs.length : Int) = 3 := by omega
      rw [e]
      simp [enter, sq, le, hl']
theorem col_is {x : PV} (h : isCol x = true) : ∃ c : Col, itemsOf x = some [.str c.1, .str (kdS c.2.1), .bl c.2.2] ∧ pnm x = c.1 ∧ isName (.str c.1) = true ∧ toT x = colP c := by
  cases hi : itemsOf x with
  | none => rw [isC_no hi] at h; cases h
  | some xs =>
    by_cases hl : xs.length = 3
    · match xs, hl with
      | [a, b, c], _ =>
        rw [isC_three hi, Bool.and_eq_true, Bool.and_eq_true] at h
        obtain ⟨⟨h1, h2⟩, h3⟩ := h
        cases a with
        | str n =>
          cases b with
          | str w =>
            cases c with
            | bl f =>
              have kw : ∃ k, kdS k = w := by
                rw [isKd, Bool.or_eq_true, decide_eq_true_eq, decide_eq_true_eq] at h2
                rcases h2 with rfl | rfl
                · exact ⟨false, rfl⟩
                · exact ⟨true, rfl⟩
              obtain ⟨k, rfl⟩ := kw
              refine ⟨(n, k, f), rfl, ?_, h1, ?_⟩
              · cases x <;> cases hi <;> rfl
              · cases x <;> cases hi <;> rfl
            | _ => cases h3
          | _ => cases h2
        | _ => cases h1
    · rw [isC_len hi hl] at h; cases h
theorem col_uni {x : PV} (h : isCol x = true) (ha : PtAsk x) : Uni (pnm x) := by
  obtain ⟨c, hi, e, _⟩ := col_is h
  rw [e]
  exact ((ha _ hi).2 (.str c.1) (by simp) c.1 rfl).uni
theorem cix0 {x : PV} (h : isCol x = true) : pyIx x (.int 0) = some (.str (pnm x)) := by
  obtain ⟨c, hi, e, _⟩ := col_is h
  rw [ix_items hi, ix0c, e]
theorem cixT {x : PV} (h : isCol x = true) : pyIx (toT x) (.int 0) = some (.str (pnm x)) := by
  obtain ⟨c, hi, e, _, e2⟩ := col_is h
  rw [e2, e]
  exact ix0c _ _
theorem ctup {x : PV} (h : isCol x = true) : bTup [x] = some (toT x) := by
  obtain ⟨c, hi, _⟩ := col_is h
  cases x <;> cases hi <;> rfl
/-- the first wrong column -/
def faultC : List Str → Nat → List PV → Option Nat
  | _, _, [] => none
  | ns, i, x :: xs => if isCol x = true ∧ pnm x ∉ ns then faultC (ns ++ [pnm x]) (i + 1) xs else some i
def faultCs (x : PV) : Option Int := match itemsOf x with
  | some xs => if 1 ≤ xs.length ∧ xs.length ≤ 12 then (faultC [] 0 xs).map Int.ofNat else some (-1)
  | none => some (-1)
def xBS (w : Str) (i : Int) : Ex := ⟨21, [(Str.ofString "at", .int i), (Str.ofString "why", .str w)]⟩
theorem readc_loop {s0 : Slot} : ∀ (xs pre : List PV) (x2 x3 : Slot), (∀ x ∈ pre ++ xs, PtAsk x) → (∀ x ∈ pre, isCol x = true) → pre.length + xs.length ≤ 1000 → mp (some x2) = true → mp (some x3) = true →
    (faultC (pre.map pnm) pre.length xs = none ∧ (∀ x ∈ xs, isCol x = true) ∧ ∃ y2 y3, frL (tgT [2, 3]) (seqM q_read_columns_5 q_read_columns_7) (enumP pre.length xs) [s0, .own false (.lst (pre.map toT)), x2, x3, .non] = .nxt [s0, .own false (.lst ((pre ++ xs).map toT)), y2, y3, .non]) ∨
    (∃ i : Nat, faultC (pre.map pnm) pre.length xs = some i ∧ ∃ ρ, frL (tgT [2, 3]) (seqM q_read_columns_5 q_read_columns_7) (enumP pre.length xs) [s0, .own false (.lst (pre.map toT)), x2, x3, .non] = .exc (xBS (Str.ofString "columns") i) (s0 :: ρ))
  | [], pre, x2, x3, _, _, _, _, _ => .inl ⟨rfl, (fun _ z => by cases z), x2, x3, by rw [enumP, frL, List.append_nil]⟩
  | x :: xs, pre, x2, x3, ha, hp, hl, h2, h3 => by
    simp only [List.length_cons] at hl
    have ax := ha x (by simp)
    have ip := is_column_any ax
    have sz : pre.length < sizeLine := nat_lt (by omega)
    have tg : tgT [2, 3] (.tup [.int (pre.length : Nat), x]) [s0, .own false (.lst (pre.map toT)), x2, x3, .non] = some [s0, .own false (.lst (pre.map toT)), .val (.int (pre.length : Nat)), .val x, .non] := by simp [tgT, putsT, h2, h3]
    rw [enumP_cons]
    cases c : isCol x with
    | false =>
      rw [c] at ip
      refine .inr ⟨pre.length, by rw [faultC, if_neg (by simp [c])], [.own false (.lst (pre.map toT)), .val (.int (pre.length : Nat)), .val x, .non], frL_exc tg (by simp [ip, xBS])⟩
    | true =>
      rw [c] at ip
      have j0 := cix0 c
      have cm := fm_cmpG (io := 1) (s := .own false (.lst (pre.map toT))) (vs := [4]) (tg := tgN 4) (t := noT) (e := binN pyIx 4 (cst (.int 0))) toT (fun y => PV.str (pnm y)) (fun _ => true) [s0, .own false (.lst (pre.map toT)), .val (.int (pre.length : Nat)), .val x, .non] rfl pre (fun y hy => by
        refine ⟨[s0, .own false (.lst (pre.map toT)), .val (.int (pre.length : Nat)), .val x, .val (toT y)], by simp, rfl, fun _ => by simp [cixT (hp y hy)], by simp⟩) pre [] (fun _ h => h) (by simp; omega)
      have fl : (pre.filter fun _ => true) = pre := List.filter_eq_self.mpr fun _ _ => rfl
      rw [fl, List.nil_append, show pre.map (fun y => PV.str (pnm y)) = (pre.map pnm).map PV.str by simp] at cm
      have ii := in_lst (s := pnm x) (ss := pre.map pnm) (col_uni c ax) (fun t ht => by
        obtain ⟨y, hy, rfl⟩ := List.mem_map.mp ht
        exact col_uni (hp y hy) (ha y (by simp [hy])))
      have tp := ctup c
      by_cases hn : pnm x ∈ pre.map pnm
      · rw [decide_eq_true hn] at ii
        refine .inr ⟨pre.length, by rw [faultC, if_neg (fun z => z.2 hn)], [.own false (.lst (pre.map toT)), .val (.int (pre.length : Nat)), .val x, .non], frL_exc tg (by simp [-List.map_map, -List.mem_map, ip, j0, cm, ii, xBS])⟩
      · rw [decide_eq_false hn] at ii
        have e0 : pre ++ x :: xs = (pre ++ [x]) ++ xs := by simp
        have st : (seqM q_read_columns_5 q_read_columns_7) [s0, .own false (.lst (pre.map toT)), .val (.int (pre.length : Nat)), .val x, .non] = .nxt [s0, .own false (.lst ((pre ++ [x]).map toT)), .val (.int (pre.length : Nat)), .val x, .non] := by
          simp [-List.map_map, -List.mem_map, ip, j0, cm, ii, sz, tp]
        rw [frL_step tg st, faultC, if_pos ⟨c, hn⟩]
        have ih := readc_loop (s0 := s0) xs (pre ++ [x]) (.val (.int (pre.length : Nat))) (.val x) (by rw [← e0]; exact ha) (fun y hy => by
          rcases List.mem_append.mp hy with hy | hy
          · exact hp y hy
          · rw [List.mem_singleton] at hy; rw [hy]; exact c) (by simp; omega) rfl rfl
        have em : (pre ++ [x]).map pnm = pre.map pnm ++ [pnm x] := by simp
        have el : (pre ++ [x]).length = pre.length + 1 := by simp
        rw [em, el] at ih
        rcases ih with ⟨f, g, y2, y3, e⟩ | ⟨i, f, ρ, e⟩
        · exact .inl ⟨f, fun y hy => by
            rcases List.mem_cons.mp hy with rfl | hy
            · exact c
            · exact g y hy, y2, y3, by rw [e0]; exact e⟩
        · exact .inr ⟨i, f, ρ, e⟩
theorem faultC_nd : ∀ (xs : List PV) (ns : List Str) (i : Nat), ns.Nodup → faultC ns i xs = none → (ns ++ xs.map pnm).Nodup
  | [], ns, i, nd, _ => by simpa using nd
  | x :: xs, ns, i, nd, h => by
    rw [faultC] at h
    split at h
    · rename_i hc
      have nd2 : (ns ++ [pnm x]).Nodup := by
        rw [List.nodup_append]
        refine ⟨nd, by simp, fun a ha b hb e => ?_⟩
        rw [List.mem_singleton] at hb
        rw [e, hb] at ha
        exact hc.2 ha
      have := faultC_nd xs (ns ++ [pnm x]) (i + 1) nd2 h
      simpa using this
    · cases h
/-- columns are read -/
theorem read_columns_any {x : PV} (ha : ∀ xs, itemsOf x = some xs → xs.length ≤ 1000 ∧ ∀ y ∈ xs, PtAsk y) :
    (faultCs x = none ∧ ∃ xs, itemsOf x = some xs ∧ (∀ y ∈ xs, isCol y = true) ∧ (xs.map pnm).Nodup ∧ 1 ≤ xs.length ∧ xs.length ≤ 12 ∧ m_read_columns [.val x] = .ok (.v (.tup (xs.map toT))) [.val x]) ∨
    ∃ i, faultCs x = some i ∧ m_read_columns [.val x] = .exc (xBS (Str.ofString "columns") i) [.val x] := by
  have sq := is_seq x
  cases hi : itemsOf x with
  | none =>
    have : isSeq x = false := by unfold isSeq; rw [hi]; rfl
    rw [this] at sq
    refine .inr ⟨-1, by unfold faultCs; rw [hi], ?_⟩
    rw [em_read_columns]
    simp [enter, sq, xBS]
  | some xs =>
    have : isSeq x = true := by unfold isSeq; rw [hi]; rfl
    rw [this] at sq
    have le := len_items hi
    obtain ⟨h1, h2⟩ := ha xs hi
    by_cases c1 : 1 ≤ xs.length ∧ xs.length ≤ 12
    · have i1 : (1 : Int) ≤ (xs.length : Int) := by omega
      have i2 : (xs.length : Int) ≤ 12 := by omega
      have fo : faultCs x = (faultC [] 0 xs).map Int.ofNat := by unfold faultCs; rw [hi]; exact if_pos c1
      have en : kEn x = fun ρ => .ok (enumP 0 xs) ρ := by cases x <;> cases hi <;> rfl
      rcases readc_loop (s0 := .val x) xs [] .non .non (by simpa using h2) (by simp) (by simp; omega) rfl rfl with ⟨f, g, y2, y3, e⟩ | ⟨i, f, ρ, e⟩
      · simp only [List.map_nil, List.length_nil, List.nil_append] at f e
        refine .inl ⟨by rw [fo, f]; rfl, xs, rfl, g, by simpa using faultC_nd xs [] 0 List.nodup_nil f, c1.1, c1.2, ?_⟩
        rw [em_read_columns]
        simp [enter, sq, le, i1, i2, en, e]
      · simp only [List.map_nil, List.length_nil] at f e
        refine .inr ⟨i, by rw [fo, f]; rfl, ?_⟩
        rw [em_read_columns]
        simp [enter, sq, le, i1, i2, en, e]
    · refine .inr ⟨-1, by unfold faultCs; rw [hi]; exact if_neg c1, ?_⟩
      rw [em_read_columns]
      by_cases c2 : (1 : Int) ≤ (xs.length : Int)
      · have c3 : ¬ (xs.length : Int) ≤ 12 := by omega
        simp [enter, sq, le, c2, c3, xBS]
      · simp [enter, sq, le, c2, xBS]
theorem mk_shape_bad {x : PV} {e : Ex} (h : m_read_columns [.val x] = .exc e [.val x]) :
    m_Shape____init__ [.own true (.obj 5 []), .val x, .val (.tup []), .val (.tup [])] = .exc e [.own true (.obj 5 []), .val x, .val (.tup []), .val (.tup [])] := by
  rw [em_Shape____init__]
  simp [enter, h]

/-! ### plain data, by looking -/
def stB (s : Str) : Bool := decide ((L s).length ≤ 1000) && (L s).all fun c => decide (c < 1114112)
theorem stB_ok {s : Str} (h : stB s = true) : StOk s := by
  unfold stB at h
  rw [Bool.and_eq_true, decide_eq_true_eq, List.all_eq_true] at h
  exact ⟨h.1, fun c hc => of_decide_eq_true (h.2 c hc)⟩
def askB : PV → Bool
  | .str s => stB s
  | _ => true
theorem askB_ok {x : PV} (h : askB x = true) : Ask x := fun s e => by
  subst e
  exact stB_ok h
def datB : Nat → PV → Bool
  | _, .non => true
  | _, .bl _ => true
  | _, .int _ => true
  | _, .str s => stB s
  | n + 1, .lst xs => xs.all (datB n)
  | n + 1, .tup xs => xs.all (datB n)
  | _, _ => false
theorem datB_ok : ∀ (n : Nat) (x : PV), datB n x = true → Dat n x
  | n, .non, _ => by simp
  | n, .bl _, _ => by simp
  | n, .int _, _ => by simp
  | n, .str s, h => by
    rw [Dat_str]
    exact (stB_ok (by cases n <;> exact h)).uni
  | n + 1, .lst xs, h => by
    have h' : xs.all (datB n) = true := h
    rw [List.all_eq_true] at h'
    exact dats_iff.mpr fun x hx => datB_ok n x (h' x hx)
  | n + 1, .tup xs, h => by
    have h' : xs.all (datB n) = true := h
    rw [List.all_eq_true] at h'
    exact dats_iff.mpr fun x hx => datB_ok n x (h' x hx)
  | 0, .lst _, h => by cases h
  | 0, .tup _, h => by cases h
  | 0, .dct _, h => by cases h
  | n + 1, .dct _, h => by cases h
  | 0, .obj _ _, h => by cases h
  | n + 1, .obj _ _, h => by cases h
end Gk

set_option Elab.async false
set_option linter.all false
set_option maxRecDepth 100000
namespace Gk
open PySem PySem.Spec L2 TR
set_option autoImplicit false
/-! ### the law's own look at a column -/
theorem sn36_is : letters ++ Str.ofString "0123456789" = signs36 := rfl
theorem lz36 : letters.length + (Str.ofString "0123456789").length ≤ sizeLine := by rw [sizeLine_eq]; decide +kernel
theorem in_kept : Str.ofString "in" ∈ kept := by decide
/-- a thing that may stand for a column -/
structure CdOk (x : PV) : Prop where
  ask : PtAsk x
  kp : ∀ n xs, itemsOf x = some (.str n :: xs) → n ∈ kept → n = Str.ofString "in"
  eq : EqA [] 3 x x true
theorem tksP {s : Slot} {ns : List Str} (h : TkS s ns) : sP (some s) = some (.lst (ns.map .str)) := by
  rcases h with rfl | rfl | rfl <;> rfl
theorem name_split (n : Str) : isName (.str n) = (decide (1 ≤ (L n).length) && decide ((L n).length ≤ 8) && decide ((L n).headD 0 ∈ L letters) && !decide (n ∈ kept) && ((L n).all fun c => decide (c ∈ L signs36))) := by
  have hall : ((L n).all fun c => decide (c ∈ L letters) || decide (c ∈ L digits)) = (L n).all fun c => decide (c ∈ L signs36) := by
    congr 1
    funext c
    rw [show L signs36 = L letters ++ L digits from L_app _ _, Bool.eq_iff_iff]
    simp
  show nameB n = _
  unfold nameB
  rw [hall]
theorem lcol_ok {x : PV} (h : CdOk x) {s : Slot} {ns : List Str} (hs : TkS s ns) (hu : ∀ t ∈ ns, Uni t) : m__law_is_column [.val x, s] = .ok (.v (.bl (isCol x && !decide (pnm x ∈ ns)))) [.val x, s] := by
  rw [em__law_is_column]
  cases hi : itemsOf x with
  | none =>
    obtain ⟨t1, t2⟩ := ty_no hi
    rw [isC_no hi]
    rcases hs with rfl | rfl | rfl <;> simp [enter, t1, t2]
  | some xs =>
    have ty := ty_items hi
    have le := len_items hi
    obtain ⟨h1, h2⟩ := h.ask xs hi
    have tt : isTy x .list = false → isTy x .tuple = true := fun z => by rw [z] at ty; exact ty
    by_cases hl : xs.length = 3
    · match xs, hl with
      | [a, b, c], _ =>
        have j0 := ix_items hi 0
        have j1 := ix_items hi 1
        have j2 := ix_items hi 2
        rw [ix0c] at j0
        rw [ix1c] at j1
        rw [ix2c] at j2
        have e := isC_three hi
        rw [e]
        have na : (∀ n, a ≠ .str n) → isTy a .str = false ∧ isName a = false := fun z => by
          cases a with
          | str n => exact absurd rfl (z n)
          | _ => exact ⟨rfl, rfl⟩
        have nb : (∀ n, b ≠ .str n) → isTy b .str = false ∧ isKd b = false := fun z => by
          cases b with
          | str n => exact absurd rfl (z n)
          | _ => exact ⟨rfl, rfl⟩
        by_cases ca : ∃ n, a = .str n
        · obtain ⟨n, rfl⟩ := ca
          have ta : isTy (PV.str n) .str = true := rfl
          by_cases cb : ∃ w, b = .str w
          · obtain ⟨w, rfl⟩ := cb
            have tb : isTy (PV.str w) .str = true := rfl
            have so := h2 (.str n) (by simp) n rfl
            have sz := so.sz
            have sl := L_len n
            have hin := in_lst so.uni hu
            have pn : pnm x = n := by cases x <;> cases hi <;> rfl
            have kp := h.kp n _ hi
            have ns' := name_split n
            have el : Str.ofString "abcdefghijklmnopqrstuvwxyz" = letters := rfl
            rw [pn]
            -- the three tests
            have q1 : ∀ r0 : Slot, q__law_is_column_1 [.val x, s, r0, .non] = .nxt [.val x, s, r0, .non] := fun r0 => by
              cases q : isTy x .list with
              | true => simp [q]
              | false => simp [q, tt q]
            have q3 : ∀ r0 : Slot, q__law_is_column_3 [.val x, s, r0, .non] = .nxt [.val x, s, r0, .non] := fun r0 => by simp [le, j0, j1, ta, tb]
            by_cases c1 : 1 ≤ (L n).length ∧ (L n).length ≤ 8
            · obtain ⟨c0, r, hc⟩ : ∃ c r, L n = c :: r := by
                cases q : L n with
                | nil => rw [q] at c1; simp at c1
                | cons c r => exact ⟨c, r, rfl⟩
              have hi0 := ix0 sz hc
              have k1 : ¬ (n.length : Int) < 1 := by omega
              have k2 : ¬ (8 : Int) < (n.length : Int) := by omega
              have h0 : (L n).headD 0 = c0 := by rw [hc]; rfl
              by_cases c2 : n ∈ ns
              · rw [decide_eq_true c2] at hin
                rcases hs with rfl | rfl | rfl <;> simp [-e__law_is_column_1, -e__law_is_column_3, enter, q1, q3, el, j0, sz, k1, k2, hin, c2]
              · rw [decide_eq_false c2] at hin
                by_cases c3 : n = Str.ofString "in"
                · have nk : isName (.str n) = false := by rw [ns', decide_eq_true (show n ∈ kept by rw [c3]; exact in_kept)]; simp
                  rw [nk]
                  have p3 := eq_true c3
                  rcases hs with rfl | rfl | rfl <;> simp [-e__law_is_column_1, -e__law_is_column_3, enter, q1, q3, el, j0, sz, k1, k2, hin, c2, p3]
                · have nk : n ∉ kept := fun z => c3 (kp z)
                  by_cases c4 : c0 ∈ L letters
                  · have cm := fm_cmp (vs := [3]) (tg := tgN 3) (t := asB (binN pyNotIn 3 (binN pyAdd 2 (cst (.str (Str.ofString "0123456789")))))) (e := getv 3) (fun c : Nat => PV.str ⟨#[c]⟩) (fun c : Nat => PV.str ⟨#[c]⟩) (fun c => !decide (c ∈ L signs36)) [.val x, s, .val (.str letters), .non] (L n) (fun c _ => by
                      refine ⟨[.val x, s, .val (.str letters), .val (.str ⟨#[c]⟩)], by simp, ?_, fun _ => by simp, by simp⟩
                      simp [sn36_is, lz36, in_sign]) (L n) [] (fun _ h => h) (by simp; omega)
                    have chn : chrs n = (L n).map fun c => PV.str ⟨#[c]⟩ := rfl
                    rw [List.nil_append, ← chn] at cm
                    have ll : ((L n).filter fun c => !decide (c ∈ L signs36)).length ≤ (L n).length := List.length_filter_le _ _
                    have zz : ((L n).filter fun c => !decide (c ∈ L signs36)).length ≤ sizeLine := nat_le (by omega)
                    cases hb : (L n).all fun c => decide (c ∈ L signs36) with
                    | true =>
                      have fz : ((L n).filter fun c => !decide (c ∈ L signs36)) = [] := by
                        rw [List.filter_eq_nil_iff]
                        intro c hc
                        have := List.all_eq_true.mp hb c hc
                        simpa using this
                      rw [fz] at cm
                      have nm : isName (.str n) = true := by rw [ns', hb, h0]; simp [c1, nk, c4]
                      rw [nm]
                      have fin : ∀ s, q__law_is_column_10 [.val x, s, .val (.str letters), .non] = .ret (.v (.bl (isKd (.str w) && isFlg c))) [.val x, s, .val (.str letters), .non] := fun s => by
                        have fg : isTy c .bool = isFlg c := by cases c <;> rfl
                        by_cases w1 : w = Str.ofString "number"
                        · have p1 := eq_true w1
                          simp [j1, j2, p1, isKd, fg]
                        · by_cases w2 : w = Str.ofString "text"
                          · have p2 := eq_true w2
                            simp [j1, j2, w1, p2, isKd, fg]
                          · simp [j1, j2, w1, w2, isKd, fg]
                      rcases hs with rfl | rfl | rfl <;> simp [-e__law_is_column_1, -e__law_is_column_3, -e__law_is_column_10, enter, q1, q3, fin, el, j0, sz, k1, k2, hin, c2, c3, hi0, in_sign, c4, cm]
                    | false =>
                      have fz : 0 < ((L n).filter fun c => !decide (c ∈ L signs36)).length := by
                        rw [List.length_pos_iff]
                        intro z
                        rw [List.filter_eq_nil_iff] at z
                        have : (L n).all (fun c => decide (c ∈ L signs36)) = true := List.all_eq_true.mpr fun c hc => by
                          have := z c hc
                          simpa using this
                        rw [hb] at this; cases this
                      have nm : isName (.str n) = false := by rw [ns', hb]; simp
                      rw [nm]
                      generalize ((L n).filter fun c => !decide (c ∈ L signs36)) = M at cm zz fz
                      have fz' : (0 : Int) < (M.length : Int) := by omega
                      have fe : ¬ M = [] := fun z => by rw [z] at fz; simp at fz
                      rcases hs with rfl | rfl | rfl <;> simp [-e__law_is_column_1, -e__law_is_column_3, enter, q1, q3, el, j0, sz, k1, k2, hin, c2, c3, hi0, in_sign, c4, cm, zz, fz, fz', fe]
                  · have nm : isName (.str n) = false := by rw [ns', h0]; simp [c4]
                    rw [nm]
                    rcases hs with rfl | rfl | rfl <;> simp [-e__law_is_column_1, -e__law_is_column_3, enter, q1, q3, el, j0, sz, k1, k2, hin, c2, c3, hi0, in_sign, c4]
            · have nm : isName (.str n) = false := by
                rw [ns']
                by_cases z : 1 ≤ (L n).length
                · have : ¬ (L n).length ≤ 8 := fun w => c1 ⟨z, w⟩
                  simp [this]
                · simp [z]
              rw [nm]
              by_cases k1 : (n.length : Int) < 1
              · rcases hs with rfl | rfl | rfl <;> simp [-e__law_is_column_1, -e__law_is_column_3, enter, q1, q3, el, j0, sz, k1]
              · have k2 : (8 : Int) < (n.length : Int) := by omega
                rcases hs with rfl | rfl | rfl <;> simp [-e__law_is_column_1, -e__law_is_column_3, enter, q1, q3, el, j0, sz, k1, k2]
          · obtain ⟨t1, t2⟩ := nb (fun w z => cb ⟨w, z⟩)
            rw [t2]
            cases q : isTy x .list with
            | true => rcases hs with rfl | rfl | rfl <;> simp [enter, q, le, j0, j1, ta, t1]
            | false => rcases hs with rfl | rfl | rfl <;> simp [enter, q, tt q, le, j0, j1, ta, t1]
        · obtain ⟨t1, t2⟩ := na (fun w z => ca ⟨w, z⟩)
          rw [t2]
          cases q : isTy x .list with
          | true => rcases hs with rfl | rfl | rfl <;> simp [enter, q, le, j0, t1]
          | false => rcases hs with rfl | rfl | rfl <;> simp [enter, q, tt q, le, j0, t1]
    · have e := isC_len hi hl
      have hl' : ¬ (xs.length : Int) = 3 := by omega
      rw [e]
      cases q : isTy x .list with
      | true => rcases hs with rfl | rfl | rfl <;> simp [enter, q, le, hl']
      | false => rcases hs with rfl | rfl | rfl <;> simp [enter, q, tt q, le, hl']
def oI : Option Int → PV
  | some i => .int i
  | none => .non
theorem due_loop {xs : List PV} (ha : ∀ y ∈ xs, CdOk y) (hx : xs.length ≤ 100) : ∀ (m : Nat) (pre suf : List PV) (x2 : Slot), xs = pre ++ suf → suf.length = m → (∀ y ∈ pre, isCol y = true) → mp (some x2) = true →
    (faultC (pre.map pnm) pre.length suf = none ∧ ∃ y2, frL (tgN 2) (seqM q__law_due_5 q__law_due_7) (rng pre.length m) [.val (.lst xs), .own false (.lst ((pre.map pnm).map PV.str)), x2] = .nxt [.val (.lst xs), .own false (.lst ((xs.map pnm).map PV.str)), y2]) ∨
    (∃ i : Nat, faultC (pre.map pnm) pre.length suf = some i ∧ ∃ ρ, frL (tgN 2) (seqM q__law_due_5 q__law_due_7) (rng pre.length m) [.val (.lst xs), .own false (.lst ((pre.map pnm).map PV.str)), x2] = .ret (.v (.int i)) (.val (.lst xs) :: ρ))
  | 0, pre, suf, x2, e, hm, hp, h2 => by
    have : suf = [] := List.length_eq_zero_iff.mp hm
    subst this
    exact .inl ⟨rfl, x2, by rw [rng, frL, e, List.append_nil]⟩
  | m + 1, pre, [], x2, e, hm, hp, h2 => by cases hm
  | m + 1, pre, y :: suf, x2, e, hm, hp, h2 => by
    have hy : y ∈ xs := by rw [e]; simp
    have cy := ha y hy
    have pl : pre.length < xs.length := by rw [e]; simp
    have ixy : atI xs (pre.length : Nat) = some y := by
      unfold atI ixN
      rw [if_pos (by omega), if_pos (by omega), e]
      simp
    have hu : ∀ t ∈ pre.map pnm, Uni t := fun t ht => by
      obtain ⟨z, hz, rfl⟩ := List.mem_map.mp ht
      exact col_uni (hp z hz) (ha z (by rw [e]; simp [hz])).ask
    have lc := lcol_ok cy (s := .own true (.lst ((pre.map pnm).map PV.str))) (.inl rfl) hu
    have tg : tgN 2 (.int (pre.length : Nat)) [.val (.lst xs), .own false (.lst ((pre.map pnm).map PV.str)), x2] = some [.val (.lst xs), .own false (.lst ((pre.map pnm).map PV.str)), .val (.int (pre.length : Nat))] := by simp [h2]
    rw [show rng (pre.length : Int) (m + 1) = .int pre.length :: rng ((pre.length : Int) + 1) m from rfl]
    by_cases c : isCol y = true ∧ pnm y ∉ pre.map pnm
    · rw [c.1, decide_eq_false c.2] at lc
      have j0 := cix0 c.1
      have sz : pre.length < sizeLine := nat_lt (by omega)
      have em : (pre ++ [y]).map pnm = pre.map pnm ++ [pnm y] := by simp
      have el : (pre ++ [y]).length = pre.length + 1 := by simp
      have st : (seqM q__law_due_5 q__law_due_7) [.val (.lst xs), .own false (.lst ((pre.map pnm).map PV.str)), .val (.int (pre.length : Nat))] = .nxt [.val (.lst xs), .own false (.lst (((pre ++ [y]).map pnm).map PV.str)), .val (.int (pre.length : Nat))] := by
        rw [em]
        simp [-List.map_map, -List.mem_map, ixy, lc, j0, sz]
      rw [frL_step tg st]
      have ih := due_loop ha hx m (pre ++ [y]) suf (.val (.int (pre.length : Nat))) (by rw [e]; simp) (by simpa using hm) (fun z hz => by
        rcases List.mem_append.mp hz with hz | hz
        · exact hp z hz
        · rw [List.mem_singleton] at hz; rw [hz]; exact c.1) rfl
      rw [el, em] at ih
      rw [em]
      have fl : faultC (pre.map pnm) pre.length (y :: suf) = faultC (pre.map pnm ++ [pnm y]) (pre.length + 1) suf := by rw [faultC, if_pos c]
      rw [fl]
      exact ih
    · have lb : (isCol y && !decide (pnm y ∈ pre.map pnm)) = false := by
        rw [Bool.and_eq_false_iff]
        by_cases z : isCol y = true
        · right
          have : pnm y ∈ pre.map pnm := Classical.byContradiction fun w => c ⟨z, w⟩
          simp [-List.mem_map, this]
        · left; simpa using z
      rw [lb] at lc
      refine .inr ⟨pre.length, by rw [faultC, if_neg c], _, frL_stop (ρ2 := [.val (.lst xs), .own false (.lst ((pre.map pnm).map PV.str)), .val (.int (pre.length : Nat))]) tg ?_⟩
      simp [-List.map_map, -List.mem_map, ixy, lc]
theorem due_ok {xs : List PV} (ha : ∀ y ∈ xs, CdOk y) (hx : xs.length ≤ 100) : m__law_due [.val (.lst xs)] = .ok (.v (oI (faultCs (.lst xs)))) [.val (.lst xs)] := by
  rw [em__law_due]
  have fo : faultCs (.lst xs) = if 1 ≤ xs.length ∧ xs.length ≤ 12 then (faultC [] 0 xs).map Int.ofNat else some (-1) := rfl
  by_cases c1 : 1 ≤ xs.length ∧ xs.length ≤ 12
  · have i1 : ¬ (xs.length : Int) < 1 := by omega
    have i2 : ¬ (12 : Int) < (xs.length : Int) := by omega
    have ok : okR (xs.length : Int) = true := okR_small (by omega) (by omega)
    rw [fo, if_pos c1]
    have ne : ¬ xs = [] := fun z => by rw [z] at c1; simp at c1
    rcases due_loop ha hx xs.length [] xs .non rfl rfl (by simp) rfl with ⟨f, y2, e⟩ | ⟨i, f, ρ, e⟩
    · simp only [List.map_nil, List.length_nil] at f e
      have e' : frL (tgN 2) (seqM q__law_due_5 q__law_due_7) (rng 0 xs.length) [.val (.lst xs), .own false (.lst []), .non] = _ := e
      rw [f]
      simp [-List.map_map, enter, i1, i2, ok, e', oI, ne]
    · simp only [List.map_nil, List.length_nil] at f e
      have e' : frL (tgN 2) (seqM q__law_due_5 q__law_due_7) (rng 0 xs.length) [.val (.lst xs), .own false (.lst []), .non] = _ := e
      rw [f]
      simp [-List.map_map, enter, i1, i2, ok, e', oI, ne]
  · rw [fo, if_neg c1]
    by_cases c2 : (xs.length : Int) < 1
    · have : xs = [] := List.length_eq_zero_iff.mp (by omega)
      subst this
      simp [enter, oI]
    · have c3 : (12 : Int) < (xs.length : Int) := by omega
      have ne : ¬ xs = [] := fun z => by rw [z] at c2; simp at c2
      simp [enter, c2, c3, oI, ne]
end Gk

set_option Elab.async false
set_option linter.all false
set_option maxRecDepth 100000
namespace Gk
open PySem PySem.Spec L2 TR
set_option autoImplicit false
/-! ### spoiled columns -/
theorem clr_is (xs : List PV) : lClear xs [] = some (.non, []) := (rfl)
theorem rev_is (xs : List PV) : lReverse xs [] = some (.non, xs.reverse) := (rfl)
theorem cut_take {xs : List PV} {n : Nat} (h : n ≤ xs.length) : cutP xs none (some (n : Int)) = xs.take n := by
  unfold cutP
  rw [HT.sIx_none, HT.sIx_nat, List.drop_zero, Nat.sub_zero, Nat.min_eq_left h]
theorem datE {n : Nat} {x : PV} (h : Dat n x) (hn : n ≤ 64) {k : Nat} : EqA [] k x x true := by
  have := eqA_P (tab := []) (n := k) h h hn hn
  rw [eqP_refl n x h] at this
  exact this
theorem cd_seq {y : PV} {xs : List PV} (hi : itemsOf y = some xs) (hl : xs.length ≤ 100) (ha : ∀ a ∈ xs, Ask a) (hd : ∀ a ∈ xs, Dat 1 a) (hk : ∀ n r, xs = .str n :: r → n ∈ kept → n = Str.ofString "in") : CdOk y := by
  refine ⟨fun zs e => ?_, fun n zs e => ?_, ?_⟩
  · rw [hi] at e; cases e
    exact ⟨hl, ha⟩
  · rw [hi] at e; cases e
    exact hk n zs rfl
  · have : Dat 2 y := by
      cases y with
      | lst ys => cases hi; exact dats_iff.mpr hd
      | tup ys => cases hi; exact dats_iff.mpr hd
      | _ => cases hi
    exact datE this (by decide)
theorem cd_flat {y : PV} (hi : itemsOf y = none) (he : EqA [] 3 y y true) : CdOk y :=
  ⟨fun zs e => (by rw [hi] at e; cases e), fun n zs e => (by rw [hi] at e; cases e), he⟩
theorem name_nk {n : Str} (h : isName (.str n) = true) : n ∉ kept := fun z => by
  rw [name_split, decide_eq_true z] at h
  simp at h
def bad1 : List PV := [.non, .int 5, .str (Str.ofString "ab"), .dct [], .bl true]
theorem bad1_ok : ∀ y ∈ bad1, CdOk y := by
  intro y hy
  simp only [bad1, List.mem_cons, List.not_mem_nil, or_false] at hy
  rcases hy with rfl | rfl | rfl | rfl | rfl
  · exact cd_flat rfl (datE (n := 0) (by simp) (by decide))
  · exact cd_flat rfl (datE (n := 0) (by simp) (by decide))
  · exact cd_flat rfl (datE (n := 0) (datB_ok 0 _ (by decide +kernel)) (by decide))
  · exact cd_flat rfl (eqA_dct (fun p hp => by cases hp) (fun p hp => by cases hp) rfl fun _ => rfl)
  · exact cd_flat rfl (datE (n := 0) (by simp) (by decide))
def okI (b : PV) : Bool := askB b && datB 1 b
theorem okI_a {b : PV} (h : okI b = true) : Ask b ∧ Dat 1 b := by
  unfold okI at h
  rw [Bool.and_eq_true] at h
  exact ⟨askB_ok h.1, datB_ok 1 b h.2⟩
def bad3 : List PV := [.str (Str.ofString ""), .str (Str.ofString "A"), .str (Str.ofString "in"), .non, .int 7, .lst [], .str (Str.ofString "abcdefghi"), .str (Str.ofString "a-b")]
theorem bad3_ok : ∀ y ∈ bad3, okI y = true ∧ (∀ n, y = .str n → n ∈ kept → n = Str.ofString "in") := by
  have h : bad3.all (fun y => okI y && (match y with | .str n => !decide (n ∈ kept) || decide (n = Str.ofString "in") | _ => true)) = true := by decide +kernel
  intro y hy
  have := List.all_eq_true.mp h y hy
  rw [Bool.and_eq_true] at this
  refine ⟨this.1, fun n e hk => ?_⟩
  subst e
  have t := this.2
  simp [hk] at t
  exact t
def bad5 : List PV := [.str (Str.ofString "Number"), .str (Str.ofString ""), .non, .lst [], .str (Str.ofString "texts"), .int 0]
theorem bad5_ok : ∀ y ∈ bad5, okI y = true := by
  have h : bad5.all okI = true := by decide +kernel
  exact fun y hy => List.all_eq_true.mp h y hy
def bad6 : List PV := [.int 1, .int 0, .non, .str (Str.ofString "True"), .lst []]
theorem bad6_ok : ∀ y ∈ bad6, okI y = true := by
  have h : bad6.all okI = true := by decide +kernel
  exact fun y hy => List.all_eq_true.mp h y hy
theorem spoiled_ok {x : PV} (hx : CdOk x) (hc : isCol x = true) {nl : List Str} (hn : ∀ n ∈ nl, isName (.str n) = true ∧ StOk n) (hl : nl.length ≤ 100) {n : Nat} {d : DS} (h : d.ok n) (hnn : n + 10 < 10 ^ 15) :
    ∃ r d', m__law_spoiled [.own true d.mo, .val x, .own true (.lst (nl.map .str))] = .ok r [.own true (DS.mo d'), .val x, .own true (.lst (nl.map .str))] ∧ CdOk r.pv ∧ DS.ok (n + 2) d' := by
  obtain ⟨c, hi, pn, nm, _⟩ := col_is hc
  obtain ⟨hlen, hask⟩ := hx.ask _ hi
  have j0 := ix_items hi 0
  have j1 := ix_items hi 1
  have j2 := ix_items hi 2
  rw [ix0c] at j0
  rw [ix1c] at j1
  rw [ix2c] at j2
  have a0 : Ask (.str c.1) := hask _ (by simp)
  have nk := name_nk nm
  have u0 : Dat 1 (.str c.1) := by rw [Dat_str]; exact (a0 c.1 rfl).uni
  have ak : Ask (.str (kdS c.2.1)) := hask _ (by simp)
  have uk : Dat 1 (.str (kdS c.2.1)) := by rw [Dat_str]; exact (ak _ rfl).uni
  have af : Ask (.bl c.2.2) := fun s e => nomatch e
  have uf : Dat 1 (.bl c.2.2) := by simp
  obtain ⟨q, d1, e1, q0, q1, k1⟩ := take_ok (many := 8) h (by omega) (by decide) (lt_bigS (by decide))
  have s5 : 5 ≤ sizeLine := nat_le (by decide)
  have s4 : 4 ≤ sizeLine := nat_le (by decide)
  have s8 : 8 ≤ sizeLine := nat_le (by decide)
  have s6 : 6 ≤ sizeLine := nat_le (by decide)
  have zn : nl.length ≤ sizeLine := nat_le (by omega)
  have kk : ∀ {m : Str} {t r : List PV} {b : PV}, (PV.str c.1 :: t = .str m :: r) → m ∈ kept → m = Str.ofString "in" := fun e hm => by
    cases e; exact absurd hm nk
  by_cases c0 : q = 0
  · obtain ⟨r, d2, e2, r0, r1, k2⟩ := take_ok (many := 5) k1 (by omega) (by decide) (lt_bigS (by decide))
    obtain ⟨y, hy, iy⟩ := ix_of (xs := bad1) (i := r) r0 (by simp [bad1]; omega)
    rw [ix_lst] at iy
    simp only [bad1] at iy
    refine ⟨.v y, d2, ?_, bad1_ok y hy, k2⟩
    rw [em__law_spoiled]
    simp [enter, e1, c0, e2, s5, iy]
  by_cases c1 : q = 1
  · refine ⟨.v (.tup [.str c.1, .str (kdS c.2.1)]), d1, ?_, ?_, k1.mono (by omega)⟩
    · rw [em__law_spoiled]
      simp [enter, e1, c1, j0, j1, two_le]
    · refine cd_seq rfl (by simp) (fun a ha => ?_) (fun a ha => ?_) (fun m r e => kk (b := .non) e)
      · simp only [List.mem_cons, List.not_mem_nil, or_false] at ha
        rcases ha with rfl | rfl <;> assumption
      · simp only [List.mem_cons, List.not_mem_nil, or_false] at ha
        rcases ha with rfl | rfl <;> assumption
  by_cases c2 : q = 2
  · refine ⟨.o (.lst [.str c.1, .str (kdS c.2.1), .bl c.2.2, .bl false]), d1, ?_, ?_, k1.mono (by omega)⟩
    · rw [em__law_spoiled]
      simp [enter, e1, c2, j0, j1, j2, s4]
    · refine cd_seq rfl (by simp) (fun a ha => ?_) (fun a ha => ?_) (fun m r e => kk (b := .non) e)
      · simp only [List.mem_cons, List.not_mem_nil, or_false] at ha
        rcases ha with rfl | rfl | rfl | rfl
        · assumption
        · assumption
        · assumption
        · exact fun s e => nomatch e
      · simp only [List.mem_cons, List.not_mem_nil, or_false] at ha
        rcases ha with rfl | rfl | rfl | rfl
        · assumption
        · assumption
        · assumption
        · simp
  by_cases c3 : q = 3
  · obtain ⟨r, d2, e2, r0, r1, k2⟩ := take_ok (many := 8) k1 (by omega) (by decide) (lt_bigS (by decide))
    obtain ⟨y, hy, iy⟩ := ix_of (xs := bad3) (i := r) r0 (by simp [bad3]; omega)
    rw [ix_lst] at iy
    simp only [bad3] at iy
    obtain ⟨oy, ky⟩ := bad3_ok y hy
    obtain ⟨ay, uy⟩ := okI_a oy
    refine ⟨.v (.tup [y, .str (kdS c.2.1), .bl c.2.2]), d2, ?_, ?_, k2⟩
    · rw [em__law_spoiled]
      have sz0 : 0 ≤ sizeLine := Nat.zero_le _
      simp [enter, e1, c3, e2, s8, iy, j1, j2, three_le]
    · refine cd_seq rfl (by simp) (fun a ha => ?_) (fun a ha => ?_) (fun m r e => ?_)
      · simp only [List.mem_cons, List.not_mem_nil, or_false] at ha
        rcases ha with rfl | rfl | rfl <;> assumption
      · simp only [List.mem_cons, List.not_mem_nil, or_false] at ha
        rcases ha with rfl | rfl | rfl <;> assumption
      · cases e; exact ky m rfl
  by_cases c4 : q = 4 ∧ 0 < nl.length
  · obtain ⟨c4, cl⟩ := c4
    obtain ⟨r, d2, e2, r0, r1, k2⟩ := take_ok (many := (nl.length : Int)) k1 (by omega) (by omega) (lt_bigS (by omega))
    obtain ⟨m, hm, im⟩ := ix_map (f := PV.str) (xs := nl) r0 r1
    rw [ix_lst] at im
    obtain ⟨m1, m2⟩ := hn m hm
    have am : Ask (.str m) := fun s e => by cases e; exact m2
    have um : Dat 1 (.str m) := by rw [Dat_str]; exact m2.uni
    refine ⟨.v (.tup [.str m, .str (kdS c.2.1), .bl c.2.2]), d2, ?_, ?_, k2⟩
    · rw [em__law_spoiled]
      have cl' : (0 : Int) < (nl.length : Int) := by omega
      have ne : ¬ nl = [] := fun z => by rw [z] at cl; simp at cl
      simp [enter, e1, c4, cl, cl', e2, im, j1, j2, three_le, ne, zn]
    · refine cd_seq rfl (by simp) (fun a ha => ?_) (fun a ha => ?_) (fun m' r e hm' => ?_)
      · simp only [List.mem_cons, List.not_mem_nil, or_false] at ha
        rcases ha with rfl | rfl | rfl <;> assumption
      · simp only [List.mem_cons, List.not_mem_nil, or_false] at ha
        rcases ha with rfl | rfl | rfl <;> assumption
      · cases e; exact absurd hm' (name_nk m1)
  by_cases c5 : q = 5
  · obtain ⟨r, d2, e2, r0, r1, k2⟩ := take_ok (many := 6) k1 (by omega) (by decide) (lt_bigS (by decide))
    obtain ⟨y, hy, iy⟩ := ix_of (xs := bad5) (i := r) r0 (by simp [bad5]; omega)
    rw [ix_lst] at iy
    simp only [bad5] at iy
    obtain ⟨ay, uy⟩ := okI_a (bad5_ok y hy)
    refine ⟨.o (.lst [.str c.1, y, .bl c.2.2]), d2, ?_, ?_, k2⟩
    · rw [em__law_spoiled]
      simp [enter, e1, c5, e2, s6, iy, j0, j2, three_le]
    · refine cd_seq rfl (by simp) (fun a ha => ?_) (fun a ha => ?_) (fun m r e => kk (b := .non) e)
      · simp only [List.mem_cons, List.not_mem_nil, or_false] at ha
        rcases ha with rfl | rfl | rfl <;> assumption
      · simp only [List.mem_cons, List.not_mem_nil, or_false] at ha
        rcases ha with rfl | rfl | rfl <;> assumption
  · obtain ⟨r, d2, e2, r0, r1, k2⟩ := take_ok (many := 5) k1 (by omega) (by decide) (lt_bigS (by decide))
    obtain ⟨y, hy, iy⟩ := ix_of (xs := bad6) (i := r) r0 (by simp [bad6]; omega)
    rw [ix_lst] at iy
    simp only [bad6] at iy
    obtain ⟨ay, uy⟩ := okI_a (bad6_ok y hy)
    refine ⟨.v (.tup [.str c.1, .str (kdS c.2.1), y]), d2, ?_, ?_, k2⟩
    · rw [em__law_spoiled]
      by_cases c4' : q = 4
      · have cl : nl = [] := Classical.byContradiction fun z => c4 ⟨c4', List.length_pos_iff.mpr z⟩
        subst cl
        subst c4'
        simp [enter, e1, e2, s5, iy, j0, j1, three_le]
      · simp [enter, e1, c0, c1, c2, c3, c4', c5, e2, s5, iy, j0, j1, three_le]
    · refine cd_seq rfl (by simp) (fun a ha => ?_) (fun a ha => ?_) (fun m r e => kk (b := .non) e)
      · simp only [List.mem_cons, List.not_mem_nil, or_false] at ha
        rcases ha with rfl | rfl | rfl <;> assumption
      · simp only [List.mem_cons, List.not_mem_nil, or_false] at ha
        rcases ha with rfl | rfl | rfl <;> assumption
/-! ### shapes, made or not -/
theorem mk_shape_any {x CS : PV} (e : m_read_columns [.val x] = .ok (.v CS) [.val x]) :
    m_Shape____init__ [.own true (.obj 5 []), .val x, .val (.tup []), .val (.tup [])] = .ok (.v .non) [.own true (.obj 5 (shapeO CS (.tup []) (.tup []))), .val x, .val (.tup []), .val (.tup [])] := by
  have p1 : ∀ x : PV, putFP (Str.ofString "_columns") x [] = [(Str.ofString "_columns", x)] := fun _ => rfl
  have p2 : ∀ x y : PV, putFP (Str.ofString "_checks") x [(Str.ofString "_columns", y)] = [(Str.ofString "_columns", y), (Str.ofString "_checks", x)] := fun _ _ => rfl
  have p3 : ∀ x y z : PV, putFP (Str.ofString "_unique") x [(Str.ofString "_columns", y), (Str.ofString "_checks", z)] = [(Str.ofString "_columns", y), (Str.ofString "_checks", z), (Str.ofString "_unique", x)] := fun _ _ _ => rfl
  have l1 : ∀ x : PV, List.lookup (Str.ofString "_columns") [(Str.ofString "_columns", x)] = some x := fun _ => rfl
  have l2 : ∀ x y : PV, List.lookup (Str.ofString "_columns") [(Str.ofString "_columns", x), (Str.ofString "_checks", y)] = some x := fun _ _ => rfl
  rw [em_Shape____init__]
  simp [enter, e, p1, p2, p3, l1, l2, read_checks0, read_keys0, shapeO]
theorem lk_why2 (x y : PV) : List.lookup (Str.ofString "why") [(Str.ofString "at", x), (Str.ofString "why", y)] = some y := (rfl)
theorem lk_at2 (x y : PV) : List.lookup (Str.ofString "at") [(Str.ofString "at", x), (Str.ofString "why", y)] = some x := (rfl)
theorem soe_ok {x : PV} (ha : ∀ xs, itemsOf x = some xs → xs.length ≤ 1000 ∧ ∀ y ∈ xs, PtAsk y) :
    (faultCs x = none ∧ ∃ cs : List Col, (∃ xs, itemsOf x = some xs ∧ (∀ y ∈ xs, isCol y = true) ∧ (xs.map pnm).Nodup ∧ xs.map toT = cs.map colP ∧ xs.map pnm = cs.map (·.1) ∧ 1 ≤ xs.length ∧ xs.length ≤ 12) ∧ m__law_shape_or_error [.val x] = .ok (.v (.tup [shp cs, .str (Str.ofString ""), .int 0, .bl true])) [.val x]) ∨
    ∃ i, faultCs x = some i ∧ m__law_shape_or_error [.val x] = .ok (.v (.tup [.non, .str (Str.ofString "columns"), .int i, .bl true])) [.val x] := by
  have s4 : 4 ≤ sizeLine := nat_le (by decide)
  rw [em__law_shape_or_error]
  rcases read_columns_any ha with ⟨f, xs, hi, g, nd, l1, l2, e⟩ | ⟨i, f, e⟩
  · have key : ∃ cs : List Col, xs.map toT = cs.map colP ∧ xs.map pnm = cs.map (·.1) := by
      clear l1 l2 e hi nd f ha
      induction xs with
      | nil => exact ⟨[], rfl, rfl⟩
      | cons y ys ih =>
        obtain ⟨cs, h1, h2⟩ := ih (fun z hz => g z (List.mem_cons_of_mem _ hz))
        obtain ⟨c, _, e1, _, e2⟩ := col_is (g y List.mem_cons_self)
        exact ⟨c :: cs, by rw [List.map_cons, List.map_cons, h1, e2], by rw [List.map_cons, List.map_cons, h2, e1]⟩
    obtain ⟨cs, h1, h2⟩ := key
    refine .inl ⟨f, cs, ⟨xs, hi, g, nd, h1, h2, l1, l2⟩, ?_⟩
    have mk := mk_shape_any e
    rw [h1] at mk
    simp [enter, mk, s4, shp]
  · refine .inr ⟨i, f, ?_⟩
    have mk := mk_shape_bad e
    simp [enter, mk, s4, xBS, lk_why2, lk_at2]
end Gk

set_option Elab.async false
set_option linter.all false
set_option maxRecDepth 100000
namespace Gk
open PySem PySem.Spec L2 TR
set_option autoImplicit false
/-! ### the law's course -/
theorem sv_mp' {x : Slot} (h : sv (some x) = true) : mp (some x) = true ∨ ∃ e, x = .exn e := by
  cases x with
  | own b m => cases h
  | exn e => exact .inr ⟨e, rfl⟩
  | non => exact .inl rfl
  | val x => exact .inl rfl
/-- a column as the law makes it -/
def GoodC (x : PV) : Prop := ∃ c : Col, NmOk c.1 ∧ (x = colP c ∨ x = .lst [.str c.1, .str (kdS c.2.1), .bl c.2.2])
theorem GoodC.is {x : PV} (h : GoodC x) : ∃ c : Col, NmOk c.1 ∧ itemsOf x = some [.str c.1, .str (kdS c.2.1), .bl c.2.2] ∧ pnm x = c.1 := by
  obtain ⟨c, hn, rfl | rfl⟩ := h
  · exact ⟨c, hn, rfl, rfl⟩
  · exact ⟨c, hn, rfl, rfl⟩
theorem GoodC.cd {x : PV} (h : GoodC x) : CdOk x := by
  obtain ⟨c, hn, hi, _⟩ := h.is
  have ku : StOk (kdS c.2.1) := stB_ok (by cases c.2.1 <;> decide +kernel)
  refine cd_seq hi (by simp) (fun a ha => ?_) (fun a ha => ?_) (fun m r e hm => ?_)
  · simp only [List.mem_cons, List.not_mem_nil, or_false] at ha
    rcases ha with rfl | rfl | rfl
    · exact hn.ask
    · exact fun s e => by cases e; exact ku
    · exact fun s e => nomatch e
  · simp only [List.mem_cons, List.not_mem_nil, or_false] at ha
    rcases ha with rfl | rfl | rfl
    · rw [Dat_str]; exact hn.1.uni
    · rw [Dat_str]; exact ku.uni
    · simp
  · cases e; exact absurd hm hn.2
theorem make_loop {s0 s6 s7 s8 s9 s10 s11 s12 s13 : Slot} : ∀ (m : Nat) (j : Nat) (xs : List PV) (d : DS) (n : Nat) (x3 x4 x5 : Slot), d.ok n → n + 110 * m + 400 < 10 ^ 15 → (∀ x ∈ xs, GoodC x) → xs.length + m ≤ 20 → mp (some x3) = true → mp (some x4) = true → (x5 = .non ∨ ∃ v, x5 = .val v) →
    ∃ xs' d' y3 y4 y5, frL (tgN 3) (seqM q_law_4 (seqM q_law_5 (seqM q_law_6 q_law_8))) (rng j m) [s0, .own false d.mo, .own false (.lst xs), x3, x4, x5, s6, s7, s8, s9, s10, s11, s12, s13] =
      .nxt [s0, .own false (DS.mo d'), .own false (.lst xs'), y3, y4, y5, s6, s7, s8, s9, s10, s11, s12, s13] ∧ (∀ x ∈ xs', GoodC x) ∧ xs'.length ≤ xs.length + m ∧ mp (some y3) = true ∧ (y5 = .non ∨ ∃ v, y5 = .val v) ∧ DS.ok (n + 110 * m) d'
  | 0, j, xs, d, n, x3, x4, x5, h, _, hp, hl, h3, h4, h5 => ⟨xs, d, x3, x4, x5, by rw [rng, frL], hp, by omega, h3, h5, h⟩
  | m + 1, j, xs, d, n, x3, x4, x5, h, hn, hp, hl, h3, h4, h5 => by
    have hu : ∀ t ∈ xs.map pnm, Uni t := fun t ht => by
      obtain ⟨y, hy, rfl⟩ := List.mem_map.mp ht
      obtain ⟨c, hn, _, e⟩ := (hp y hy).is
      rw [e]; exact hn.1.uni
    obtain ⟨t, d1, e1, ht, hk, hf, k1⟩ := name_ok (s := .val (.lst ((xs.map pnm).map .str))) h (by omega) (.inr (.inr rfl)) (ns := xs.map pnm) hu (by rw [List.length_map]; omega)
    obtain ⟨r, d2, e2, r0, r1, k2⟩ := take_ok (many := 2) k1 (by omega) (by decide) (lt_bigS (by decide))
    obtain ⟨r', d3, e3, r0', r1', k3⟩ := take_ok (many := 2) k2 (by omega) (by decide) (lt_bigS (by decide))
    obtain ⟨r'', d4, e4, r0'', r1'', k4⟩ := take_ok (many := 2) k3 (by omega) (by decide) (lt_bigS (by decide))
    have i2 := two_ix r0 r1 (.str (Str.ofString "number")) (.str (Str.ofString "text"))
    rw [kd_ite, ix_lst] at i2
    have m5 : mp (some x5) = true := by rcases h5 with rfl | ⟨v, rfl⟩ <;> rfl
    have v5 : sv (some x5) = true := by rcases h5 with rfl | ⟨v, rfl⟩ <;> rfl
    have cm := fm_cmpG (io := 2) (s := .own false (.lst xs)) (vs := [5]) (tg := tgN 5) (t := noT) (e := callB bStr (argV (binN pyIx 5 (cst (.int 0))) argNil)) (fun x : PV => x) (fun x => PV.str (pnm x)) (fun _ => true) [s0, .own false d.mo, .own false (.lst xs), .val (.int (j : Nat)), x4, x5, s6, s7, s8, s9, s10, s11, s12, s13] rfl xs (fun x hx => by
      obtain ⟨c, hn, hi, e⟩ := (hp x hx).is
      have j0 := ix_items hi 0
      rw [ix0c] at j0
      refine ⟨[s0, .own false d.mo, .own false (.lst xs), .val (.int (j : Nat)), x4, .val x, s6, s7, s8, s9, s10, s11, s12, s13], by simp, rfl, fun _ => by simp [j0, e], by simp⟩) xs [] (fun _ h => h) (by simp; omega)
    have fl : (xs.filter fun _ => true) = xs := List.filter_eq_self.mpr fun _ _ => rfl
    rw [fl, List.nil_append, List.map_id', show xs.map (fun x => PV.str (pnm x)) = (xs.map pnm).map PV.str by simp] at cm
    have sz : xs.length < sizeLine := nat_lt (by omega)
    obtain ⟨cn, hcn⟩ : ∃ cn : Col, cn = (t, decide (¬ r = 0), decide (r' = 0)) := ⟨_, rfl⟩
    have ecn : colP cn = .tup [.str t, .str (kdS (decide (¬ r = 0))), .bl (decide (r' = 0))] := by rw [hcn]; rfl
    have goal : ∀ (y : PV), GoodC y → (seqM q_law_4 (seqM q_law_5 (seqM q_law_6 q_law_8))) [s0, .own false d.mo, .own false (.lst xs), .val (.int (j : Nat)), x4, x5, s6, s7, s8, s9, s10, s11, s12, s13] = .nxt [s0, .own false (DS.mo d4), .own false (.lst (xs ++ [y])), .val (.int (j : Nat)), .val (.str t), .val y, s6, s7, s8, s9, s10, s11, s12, s13] →
        ∃ xs' d' y3 y4 y5, frL (tgN 3) (seqM q_law_4 (seqM q_law_5 (seqM q_law_6 q_law_8))) (rng j (m + 1)) [s0, .own false d.mo, .own false (.lst xs), x3, x4, x5, s6, s7, s8, s9, s10, s11, s12, s13] =
          .nxt [s0, .own false (DS.mo d'), .own false (.lst xs'), y3, y4, y5, s6, s7, s8, s9, s10, s11, s12, s13] ∧ (∀ x ∈ xs', GoodC x) ∧ xs'.length ≤ xs.length + (m + 1) ∧ mp (some y3) = true ∧ (y5 = .non ∨ ∃ v, y5 = .val v) ∧ DS.ok (n + 110 * (m + 1)) d' := by
      intro y gy st
      obtain ⟨xs', d', y3, y4, y5, a1, a2, a3, a4, a5, a6⟩ := make_loop (s0 := s0) (s6 := s6) (s7 := s7) (s8 := s8) (s9 := s9) (s10 := s10) (s11 := s11) (s12 := s12) (s13 := s13) m (j + 1) (xs ++ [y]) d4 (n + 110) (.val (.int (j : Nat))) (.val (.str t)) (.val y) (k4.mono (by omega)) (by omega) (fun x hx => by
        rcases List.mem_append.mp hx with hx | hx
        · exact hp x hx
        · rw [List.mem_singleton] at hx; rw [hx]; exact gy) (by simp; omega) rfl rfl (.inr ⟨y, rfl⟩)
      refine ⟨xs', d', y3, y4, y5, ?_, a2, by rw [List.length_append] at a3; simp at a3; omega, a4, a5, a6.mono (by omega)⟩
      rw [show rng (j : Int) (m + 1) = .int j :: rng ((j : Int) + 1) m from rfl, frL_step (by simp [h3]) st]
      exact a1
    have nok : NmOk cn.1 := by rw [hcn]; exact ⟨ht, hk⟩
    by_cases c : r'' = 0
    · refine goal (.lst [.str cn.1, .str (kdS cn.2.1), .bl cn.2.2]) ⟨cn, nok, .inr rfl⟩ ?_
      rw [hcn]
      simp [-List.map_map, cm, v5, h4, m5, e1, two_le, e2, i2, e3, three_le, e4, c, sz, -decide_not]
    · refine goal (colP cn) ⟨cn, nok, .inl rfl⟩ ?_
      rw [ecn]
      simp [-List.map_map, cm, v5, h4, m5, e1, two_le, e2, i2, e3, three_le, e4, c, sz, -decide_not]
/-- one column is spoiled, perhaps -/
theorem spoil_step {s0 x3 s4 s8 s9 s10 s11 s12 s13 : Slot} {xs : List PV} (hx : ∀ x ∈ xs, CdOk x) (hl : xs.length ≤ 50) {x5 x6 x7 : Slot} (h5 : x5 = .non ∨ ∃ v, x5 = .val v) (h6 : mp (some x6) = true) (h7 : mp (some x7) = true) {n : Nat} {d : DS} (h : d.ok n) (hn : n + 20 < 10 ^ 15) :
    ∃ xs' d' y6 y7, q_law_10 [s0, .own false d.mo, .own false (.lst xs), x3, s4, x5, x6, x7, s8, s9, s10, s11, s12, s13] = .nxt [s0, .own false (DS.mo d'), .own false (.lst xs'), x3, s4, x5, y6, y7, s8, s9, s10, s11, s12, s13] ∧ (∀ x ∈ xs', CdOk x) ∧ xs'.length = xs.length ∧ mp (some y6) = true ∧ mp (some y7) = true ∧ DS.ok (n + 10) d' := by
  have m5 : mp (some x5) = true := by rcases h5 with rfl | ⟨v, rfl⟩ <;> rfl
  have v5 : sv (some x5) = true := by rcases h5 with rfl | ⟨v, rfl⟩ <;> rfl
  by_cases c : 0 < xs.length
  · have c' : (0 : Int) < (xs.length : Int) := by omega
    have ne : ¬ xs = [] := fun z => by rw [z] at c; simp at c
    obtain ⟨a, d1, e1, a0, a1, k1⟩ := take_ok (many := (xs.length : Int)) h (by omega) c' (lt_bigS (by omega))
    obtain ⟨a, rfl⟩ := Int.eq_ofNat_of_zero_le a0
    have al : a < xs.length := by omega
    have ct := cut_take (xs := xs) (n := a) (by omega)
    have tsub : ∀ x ∈ xs.take a, x ∈ xs := fun x h => List.mem_of_mem_take h
    have cm := fm_cmp (vs := [5]) (tg := tgN 5) (t := truM (callE m__law_is_column (argV (getv 5) (argV (frz (lstM argNil)) argNil)))) (e := binN pyIx 5 (cst (.int 0))) (fun x : PV => x) (fun x => PV.str (pnm x)) isCol [s0, .own false (DS.mo d1), .own false (.lst xs), x3, s4, x5, .val (.int (a : Nat)), x7, s8, s9, s10, s11, s12, s13] (xs.take a) (fun x hxx => by
      have lc := lcol_ok (hx x (tsub x hxx)) (s := .val (.lst [])) (ns := []) (.inr (.inr rfl)) (by simp)
      simp only [List.not_mem_nil, decide_false, Bool.not_false, Bool.and_true] at lc
      refine ⟨[s0, .own false (DS.mo d1), .own false (.lst xs), x3, s4, .val x, .val (.int (a : Nat)), x7, s8, s9, s10, s11, s12, s13], by simp, by simp [lc], fun hc => by simp [cix0 hc], by simp⟩) (xs.take a) [] (fun _ h => h) (by simp; omega)
    obtain ⟨nl, hnl⟩ : ∃ nl : List Str, nl = ((xs.take a).filter isCol).map pnm := ⟨_, rfl⟩
    rw [List.nil_append, List.map_id', show ((xs.take a).filter isCol).map (fun x => PV.str (pnm x)) = nl.map PV.str by rw [hnl]; simp] at cm
    have hnok : ∀ n ∈ nl, isName (.str n) = true ∧ StOk n := fun n hn => by
      rw [hnl] at hn
      obtain ⟨y, hy, rfl⟩ := List.mem_map.mp hn
      obtain ⟨hy1, hy2⟩ := List.mem_filter.mp hy
      obtain ⟨c0, hi, e, nm, _⟩ := col_is hy2
      rw [e]
      exact ⟨nm, ((hx y (tsub y hy1)).ask _ hi).2 (.str c0.1) (by simp) c0.1 rfl⟩
    have lnl : nl.length ≤ 50 := by
      rw [hnl, List.length_map]
      have := List.length_filter_le isCol (xs.take a)
      rw [List.length_take] at this
      omega
    obtain ⟨y, hy⟩ : ∃ y, xs[a]'al = y := ⟨_, rfl⟩
    have hym : y ∈ xs := by rw [← hy]; exact List.getElem_mem al
    have iy : atI xs (a : Nat) = some y := by
      unfold atI ixN
      rw [if_pos (by omega), if_pos (by omega)]
      simp [hy, al]
    have ly := lcol_ok (hx y hym) (s := .val (.lst [])) (ns := []) (.inr (.inr rfl)) (by simp)
    simp only [List.not_mem_nil, decide_false, Bool.not_false, Bool.and_true] at ly
    cases ic : isCol y with
    | true =>
      rw [ic] at ly
      obtain ⟨r, d2, e2, cr, k2⟩ := spoiled_ok (hx y hym) ic hnok (by omega) k1 (by omega)
      have st : storeQ (.lst xs) (.int (a : Nat)) r.pv = some (.lst (xs.set a r.pv)) := by
        rw [store_lst]
        unfold ixN
        rw [if_pos (by omega), if_pos (by omega)]
        simp
      refine ⟨xs.set a r.pv, d2, .val (.int (a : Nat)), .own false (.lst (nl.map .str)), ?_, fun z hz => ?_, by simp, rfl, rfl, k2.mono (by omega)⟩
      · simp [-store_lst, c, c', ne, e1, h6, pySl, ct, cm, v5, h7, iy, ly, e2, st]
      · rcases List.mem_or_eq_of_mem_set hz with hz | rfl
        · exact hx z hz
        · exact cr
    | false =>
      rw [ic] at ly
      refine ⟨xs, d1, .val (.int (a : Nat)), .own false (.lst (nl.map .str)), ?_, hx, rfl, rfl, rfl, k1.mono (by omega)⟩
      simp [c, c', ne, e1, h6, pySl, ct, cm, v5, h7, iy, ly]
  · have c0 : xs = [] := List.length_eq_zero_iff.mp (by omega)
    subst c0
    exact ⟨[], d, x6, x7, by simp, hx, rfl, h6, h7, h.mono (by omega)⟩
theorem spoil_loop {s0 s4 s8 s9 s10 s11 s12 s13 : Slot} {x5 : Slot} (h5 : x5 = .non ∨ ∃ v, x5 = .val v) : ∀ (m j : Nat) (xs : List PV) (d : DS) (n : Nat) (x3 x6 x7 : Slot), d.ok n → n + 10 * m + 400 < 10 ^ 15 → (∀ x ∈ xs, CdOk x) → xs.length ≤ 50 → mp (some x3) = true → mp (some x6) = true → mp (some x7) = true →
    ∃ xs' d' y3 y6 y7, frL (tgN 3) q_law_10 (rng j m) [s0, .own false d.mo, .own false (.lst xs), x3, s4, x5, x6, x7, s8, s9, s10, s11, s12, s13] = .nxt [s0, .own false (DS.mo d'), .own false (.lst xs'), y3, s4, x5, y6, y7, s8, s9, s10, s11, s12, s13] ∧ (∀ x ∈ xs', CdOk x) ∧ xs'.length = xs.length ∧ mp (some y7) = true ∧ DS.ok (n + 10 * m) d'
  | 0, j, xs, d, n, x3, x6, x7, h, _, hx, hl, h3, h6, h7 => ⟨xs, d, x3, x6, x7, by rw [rng, frL], hx, rfl, h7, h⟩
  | m + 1, j, xs, d, n, x3, x6, x7, h, hn, hx, hl, h3, h6, h7 => by
    obtain ⟨xs1, d1, y6, y7, e1, hx1, l1, m6, m7, k1⟩ := spoil_step (s0 := s0) (x3 := .val (.int (j : Nat))) (s4 := s4) (s8 := s8) (s9 := s9) (s10 := s10) (s11 := s11) (s12 := s12) (s13 := s13) hx hl h5 h6 h7 h (by omega)
    obtain ⟨xs', d', z3, z6, z7, a1, a2, a3, a4, a5⟩ := spoil_loop (s0 := s0) (s4 := s4) (s8 := s8) (s9 := s9) (s10 := s10) (s11 := s11) (s12 := s12) (s13 := s13) h5 m (j + 1) xs1 d1 (n + 10) (.val (.int (j : Nat))) y6 y7 k1 (by omega) hx1 (by omega) rfl m6 m7
    refine ⟨xs', d', z3, z6, z7, ?_, a2, by omega, a4, a5.mono (by omega)⟩
    rw [show rng (j : Int) (m + 1) = .int j :: rng ((j : Int) + 1) m from rfl, frL_step (by simp [h3]) e1]
    exact a1
end Gk

set_option Elab.async false
set_option linter.all false
set_option maxRecDepth 100000
namespace Gk
open PySem PySem.Spec L2 TR
set_option autoImplicit false
theorem find_loop {cs : List Col} {n : Str} {c : Col} (hc : c ∈ cs) (nd : (cs.map (·.1)).Nodup) (hn : c.1 = n) {s0 : Slot} : ∀ (ds : List Col) (x2 : Slot), (∀ d ∈ ds, d ∈ cs) → c ∈ ds → (ds.map (·.1)).Nodup → mp (some x2) = true →
    ∃ y2, frL (tgN 2) q_find_column_2 (ds.map colP) [s0, .val (.str n), x2] = .ret (.v (colP c)) [s0, .val (.str n), y2]
  | [], x2, _, h, _, _ => by cases h
  | d :: ds, x2, hd, h, nd2, h2 => by
    have j0 := col_i0 d
    have tn : isTy (PV.str n) .str = true := rfl
    rw [List.map_cons]
    by_cases e : d.1 = n
    · have hcd : c = d := by
        rcases List.mem_cons.mp h with h | h
        · exact h
        · rw [List.map_cons, List.nodup_cons] at nd2
          exact absurd (by rw [e, ← hn]; exact List.mem_map_of_mem h) nd2.1
      rw [hcd]
      exact ⟨.val (colP d), frL_stop (ρ1 := [s0, .val (.str n), .val (colP d)]) (by simp [h2]) (by simp [tn, j0, e])⟩
    · have h' : c ∈ ds := by
        rcases List.mem_cons.mp h with h | h
        · rw [← h] at e; exact absurd hn e
        · exact h
      obtain ⟨y2, a⟩ := find_loop hc nd hn (s0 := s0) ds (.val (colP d)) (fun x hx => hd x (List.mem_cons_of_mem _ hx)) h' (by rw [List.map_cons, List.nodup_cons] at nd2; exact nd2.2) rfl
      refine ⟨y2, ?_⟩
      rw [frL_step (ρ1 := [s0, .val (.str n), .val (colP d)]) (ρ2 := [s0, .val (.str n), .val (colP d)]) (by simp [h2]) (by simp [tn, j0, e])]
      exact a
theorem find_ok {cs : List Col} {c : Col} (hc : c ∈ cs) (nd : (cs.map (·.1)).Nodup) : m_find_column [.val (.tup (cs.map colP)), .val (.str c.1)] = .ok (.v (colP c)) [.val (.tup (cs.map colP)), .val (.str c.1)] := by
  obtain ⟨y2, e⟩ := find_loop hc nd rfl (s0 := .val (.tup (cs.map colP))) cs .non (fun _ h => h) hc nd rfl
  rw [em_find_column]
  simp [enter, e]
theorem lk_cols (x y z : PV) : List.lookup (Str.ofString "_columns") (shapeO x y z) = some x := (rfl)
theorem lkS_kind (x y z : PV) : (shapeO x y z).lookup (Str.ofString "kind") = none := (rfl)
theorem lkS_filled (x y z : PV) : (shapeO x y z).lookup (Str.ofString "filled") = none := (rfl)
theorem lkS_columns (x y z : PV) : (shapeO x y z).lookup (Str.ofString "columns") = none := (rfl)
theorem lk5_5 (f : FM) : List.lookup 5 [(5, f)] = some f := (rfl)
theorem sh_kind {cs : List Col} {c : Col} (hc : c ∈ cs) (nd : (cs.map (·.1)).Nodup) : m_Shape__kind [.val (shp cs), .val (.str c.1)] = .ok (.v (.str (kdS c.2.1))) [.val (shp cs), .val (.str c.1)] := by
  have f := find_ok hc nd
  have j1 := col_i1 c
  rw [em_Shape__kind]
  unfold shp
  simp [enter, lk_cols, f, j1]
theorem sh_filled {cs : List Col} {c : Col} (hc : c ∈ cs) (nd : (cs.map (·.1)).Nodup) : m_Shape__filled [.val (shp cs), .val (.str c.1)] = .ok (.v (.bl c.2.2)) [.val (shp cs), .val (.str c.1)] := by
  have f := find_ok hc nd
  have j2 : pyIx (colP c) (.int 2) = some (.bl c.2.2) := ix2c _ _ _ _
  rw [em_Shape__filled]
  unfold shp
  simp [enter, lk_cols, f, j2]
theorem sh_columns (cs : List Col) : m_Shape__columns [.val (shp cs)] = .ok (.o (.lst (cs.map colP))) [.val (shp cs)] := by
  rw [em_Shape__columns]
  unfold shp
  simp [enter, lk_cols]
theorem lflag_ok (a : Bool) : m__law_flag [.val (.bl a), .val (.bl a)] = .ok (.v (.bl true)) [.val (.bl a), .val (.bl a)] := by
  rw [em__law_flag]
  simp [enter, isTy]
theorem told_loop {cs : List Col} (nd : (cs.map (·.1)).Nodup) {r0 r6 : List Slot} (h0 : r0.length = 5) (h6 : ∃ a b c d e f g, r6 = [a, b, c, d, e, .val (shp cs), f, g]) : ∀ (xs : List PV) (ds : List Col) (x5 : Slot), xs.map toT = ds.map colP → (∀ y ∈ xs, isCol y = true) → (∀ d ∈ ds, d ∈ cs) → mp (some x5) = true →
    ∃ y5, frL (tgN 5) q_law_36 xs (r0 ++ x5 :: r6) = .nxt (r0 ++ y5 :: r6)
  | [], ds, x5, e, _, _, h5 => ⟨x5, by rw [frL]⟩
  | y :: xs, [], x5, e, _, _, h5 => by cases e
  | y :: xs, d :: ds, x5, e, hc, hd, h5 => by
    rw [List.map_cons, List.map_cons] at e
    injection e with e1 e2
    obtain ⟨c, hi, _, _, et⟩ := col_is (hc y List.mem_cons_self)
    have ecd : colP c = colP d := et.symm.trans e1
    have cd : c = d := by
      obtain ⟨a, b, f⟩ := c
      obtain ⟨a', b', f'⟩ := d
      simp only [colP, PV.tup.injEq, List.cons.injEq, PV.str.injEq, PV.bl.injEq, and_true] at ecd
      obtain ⟨z1, z2, z3⟩ := ecd
      rw [z1, kd_inj.mp z2, z3]
    subst cd
    have hm := hd c List.mem_cons_self
    have j0 := ix_items hi 0
    have j1 := ix_items hi 1
    have j2 := ix_items hi 2
    rw [ix0c] at j0
    rw [ix1c] at j1
    rw [ix2c] at j2
    have k := sh_kind hm nd
    have f := sh_filled hm nd
    have lf := lflag_ok c.2.2
    obtain ⟨a6, a7, a8, a9, a10, a12, a13, rfl⟩ := h6
    obtain ⟨y5, e3⟩ := told_loop nd h0 ⟨a6, a7, a8, a9, a10, a12, a13, rfl⟩ xs ds (.val y) e2 (fun z hz => hc z (List.mem_cons_of_mem _ hz)) (fun z hz => hd z (List.mem_cons_of_mem _ hz)) rfl
    refine ⟨y5, ?_⟩
    rw [← e3]
    match r0, h0 with
    | [a0, a1, a2, a3, a4], _ =>
      refine frL_step (ρ1 := [a0, a1, a2, a3, a4, .val y, a6, a7, a8, a9, a10, .val (shp cs), a12, a13]) (by simp [h5]) ?_
      unfold shp at k f ⊢
      simp [j0, j1, j2, lkS_kind, lkS_filled, lk5_5, k, f, lf]
theorem lint_ok (i : Int) : m__law_is_integer [.val (.int i)] = .ok (.v (.bl true)) [.val (.int i)] := by
  rw [em__law_is_integer]
  simp [enter]
theorem law_true (ns : List Int) (hl : ns.length ≤ 63) (hb : ∀ z ∈ ns, PySem.Builtin.Int.intBits z ≤ 1048576) : ∃ r, m_law [.val (.lst (ns.map .int))] = .ok (.v (.bl true)) r := by
  have e0 := begin_ok ns
  obtain ⟨m, d1, e1, m0, m1, k1⟩ := take_ok (many := 15) (d0_ok ns) (by decide) (by decide) (lt_bigS (by decide))
  obtain ⟨m, rfl⟩ := Int.eq_ofNat_of_zero_le m0
  have okm : okR (m : Int) = true := okR_small (by omega) (by omega)
  obtain ⟨xs, d2, y3, y4, y5, e2, hg, lx, h3, h5, k2⟩ := make_loop (s0 := .val (.lst (ns.map .int))) (s6 := .non) (s7 := .non) (s8 := .non) (s9 := .non) (s10 := .non) (s11 := .non) (s12 := .non) (s13 := .non) m 0 [] d1 _ .non .non .non k1 (by omega) (by simp) (by simp; omega) rfl rfl (.inl rfl)
  have e2' : frL (tgN 3) (seqM q_law_4 (seqM q_law_5 (seqM q_law_6 q_law_8))) (rng 0 m) [.val (.lst (ns.map .int)), .own false (DS.mo d1), .own false (.lst []), .non, .non, .non, .non, .non, .non, .non, .non, .non, .non, .non] = _ := e2
  obtain ⟨p, d3, e3, p0, p1, k3⟩ := take_ok (many := 3) k2 (by omega) (by decide) (lt_bigS (by decide))
  obtain ⟨q, d4, e4, q0, q1, k4⟩ := take_ok (many := 2) k3 (by omega) (by decide) (lt_bigS (by decide))
  have pq : ∃ w : Nat, p * q = w ∧ w ≤ 2 := by
    have hp : p = 0 ∨ p = 1 ∨ p = 2 := by omega
    have hq : q = 0 ∨ q = 1 := by omega
    rcases hp with rfl | rfl | rfl <;> rcases hq with rfl | rfl
    · exact ⟨0, rfl, by decide⟩
    · exact ⟨0, rfl, by decide⟩
    · exact ⟨0, rfl, by decide⟩
    · exact ⟨1, rfl, by decide⟩
    · exact ⟨0, rfl, by decide⟩
    · exact ⟨2, rfl, by decide⟩
  obtain ⟨w, epq, lw⟩ := pq
  have mpq : CMulW p q := mul64 (by omega) (by omega)
  have okw : okR (w : Int) = true := okR_small (by omega) (by omega)
  obtain ⟨xs2, d5, z3, z6, z7, e5, hx2, l2, m7, k5⟩ := spoil_loop (s0 := .val (.lst (ns.map .int))) (s4 := y4) (s8 := .non) (s9 := .non) (s10 := .non) (s11 := .non) (s12 := .non) (s13 := .non) h5 w 0 xs d4 _ y3 .non .non k4 (by omega) (fun x hx => (hg x hx).cd) (by simp at lx; omega) h3 rfl rfl
  have e5' : frL (tgN 3) q_law_10 (rng 0 w) _ = _ := e5
  have lx2 : xs2.length ≤ 20 := by simp at lx; omega
  have due := due_ok hx2 (by omega)
  obtain ⟨r, d6, e6, r0, r1, k6⟩ := take_ok (many := 2) k5 (by omega) (by decide) (lt_bigS (by decide))
  have mp5 : mp (some y5) = true := by rcases h5 with rfl | ⟨v, rfl⟩ <;> rfl
  have sv5 : sv (some y5) = true := by rcases h5 with rfl | ⟨v, rfl⟩ <;> rfl
  -- what is handed in
  obtain ⟨G, hG⟩ : ∃ G : PV, G = if r = 0 then .tup xs2 else .lst xs2 := ⟨_, rfl⟩
  have gi : itemsOf G = some xs2 := by rw [hG]; by_cases c : r = 0 <;> simp [c, itemsOf]
  have fG : faultCs G = faultCs (.lst xs2) := by unfold faultCs; rw [gi]; rfl
  have ga : ∀ zs, itemsOf G = some zs → zs.length ≤ 1000 ∧ ∀ y ∈ zs, PtAsk y := fun zs e => by
    rw [gi] at e; cases e
    exact ⟨by omega, fun y hy => (hx2 y hy).ask⟩
  have liG : lik G = fun ρ => .ok (.lst xs2) ρ := by rw [hG]; by_cases c : r = 0 <;> simp [c] <;> rfl
  have hE : EqA [] 4 (.lst xs2) (.lst xs2) true := eqA_lst rfl (els_same fun x hx => (hx2 x hx).eq)
  have nE := pyNeB_of (tab := []) (x := .lst xs2) rfl (by decide) hE
  have zx : xs2.length ≤ sizeLine := nat_le (by omega)
  have z4 : 4 ≤ sizeLine := nat_le (by decide)
  have z5 : 5 ≤ sizeLine := nat_le (by decide)
  have tb : bTup [PV.lst xs2] = some (.tup xs2) := rfl
  -- up to the shape
  have first : ∀ (R : SM) (A : PV) (g10 : m__law_shape_or_error [.val G] = .ok (.v A) [.val G]), (seqM q_law_1 (seqM q_law_2 (seqM q_law_3 (seqM q_law_9 (seqM q_law_15 (seqM q_law_16 (seqM q_law_17 (seqM q_law_19 R)))))))) (enter 14 [.val (.lst (ns.map .int))]) =
      R [.val (.lst (ns.map .int)), .own false (DS.mo d6), .val (.lst xs2), z3, y4, y5, z6, z7, .val (oI (faultCs (.lst xs2))), .val G, .val A, .non, .non, .non] := by
    intro R A g10
    by_cases c : r = 0
    · rw [if_pos c] at hG
      subst hG
      simp [-e_law_4, -e_law_5, -e_law_6, -e_law_8, -e_law_10, -ev_seq, ev_seq q_law_1, ev_seq q_law_2, ev_seq q_law_3, ev_seq q_law_9, ev_seq q_law_15, ev_seq q_law_16, ev_seq q_law_17, ev_seq q_law_19, enter, e0, e1, okm, e2', e3, e4, epq, mpq, okw, e5', due, e6, c, tb, g10]
    · rw [if_neg c] at hG
      subst hG
      simp [-e_law_4, -e_law_5, -e_law_6, -e_law_8, -e_law_10, -ev_seq, ev_seq q_law_1, ev_seq q_law_2, ev_seq q_law_3, ev_seq q_law_9, ev_seq q_law_15, ev_seq q_law_16, ev_seq q_law_17, ev_seq q_law_19, enter, e0, e1, okm, e2', e3, e4, epq, mpq, okw, e5', due, e6, c, g10]
  have i3 : ∀ a b c d : PV, atI [a, b, c, d] 3 = some d := fun a b c d => ix3c a b c d []
  refine ⟨[.val (.lst (ns.map .int))], ?_⟩
  rw [em_law, if_pos (show ([Slot.val (PV.lst (ns.map PV.int))] : List Slot).length = 1 from rfl)]
  rcases soe_ok ga with ⟨f, cs, ⟨zs, hi, hc, nd, h1, h2, l1, l12⟩, g10⟩ | ⟨i, f, g10⟩
  · rw [gi] at hi
    cases hi
    rw [first _ _ g10]
    rw [fG] at f
    rw [f]
    have ndc : (cs.map (·.1)).Nodup := by rw [← h2]; exact nd
    have lcs : cs.length = xs2.length := by have := congrArg List.length h1; simpa using this.symm
    have zc : cs.length ≤ sizeLine := nat_le (by omega)
    have isn : pyIs (shp cs) .non = some (.bl false) := rfl
    have ks : ∀ k : Bool, Uni (kdS k) := fun k => (stB_ok (s := kdS k) (by cases k <;> decide +kernel)).uni
    have cu : ∀ c ∈ cs, Uni c.1 := fun c hcm => by
      have : c.1 ∈ xs2.map pnm := by rw [h2]; exact List.mem_map_of_mem hcm
      obtain ⟨y, hy, e⟩ := List.mem_map.mp this
      rw [← e]
      exact col_uni (hc y hy) (hx2 y hy).ask
    have dC : Dat 2 (.lst (cs.map colP)) := dats_iff.mpr fun x hx => by
      obtain ⟨c, hcm, rfl⟩ := List.mem_map.mp hx
      simp [colP, cu c hcm, ks]
    have neC := pyNeB_of (tab := []) (n := 0) (x := .lst (cs.map colP)) rfl (by decide) (eqA_P dC dC (by decide) (by decide))
    rw [eqP_refl 2 _ dC] at neC
    have dN : Dat 1 (.lst ((cs.map (·.1)).map PV.str)) := dats_iff.mpr fun x hx => by
      obtain ⟨t, ht, rfl⟩ := List.mem_map.mp hx
      obtain ⟨c, hcm, rfl⟩ := List.mem_map.mp ht
      rw [Dat_str]; exact cu c hcm
    have neN := pyNeB_of (tab := []) (n := 0) (x := .lst ((cs.map (·.1)).map PV.str)) rfl (by decide) (eqA_P dN dN (by decide) (by decide))
    rw [eqP_refl 1 _ dN] at neN
    have cmA : ∀ (s1 s11 s12 : Slot) (sA : PV), cmpL [5] (tgN 5) noT (callB bTup (argN 5 argNil)) xs2 [] [.val (.lst (ns.map .int)), s1, .val (.lst xs2), z3, y4, y5, z6, z7, .val .non, .val G, .val sA, s11, s12, .non] = .ok (cs.map colP) [.val (.lst (ns.map .int)), s1, .val (.lst xs2), z3, y4, y5, z6, z7, .val .non, .val G, .val sA, s11, s12, .non] := fun s1 s11 s12 sA => by
      have cm := fm_cmp (vs := [5]) (tg := tgN 5) (t := noT) (e := callB bTup (argN 5 argNil)) (fun x : PV => x) toT (fun _ => true) [.val (.lst (ns.map .int)), s1, .val (.lst xs2), z3, y4, y5, z6, z7, .val .non, .val G, .val sA, s11, s12, .non] xs2 (fun x hx => by
        refine ⟨[.val (.lst (ns.map .int)), s1, .val (.lst xs2), z3, y4, .val x, z6, z7, .val .non, .val G, .val sA, s11, s12, .non], by simp, rfl, fun _ => by simp [ctup (hc x hx)], by simp⟩) xs2 [] (fun _ h => h) (by simp; omega)
      have fl : (xs2.filter fun _ => true) = xs2 := List.filter_eq_self.mpr fun _ _ => rfl
      rw [fl, List.nil_append, List.map_id', h1] at cm
      exact cm
    have cmB : ∀ (s1 s7 s11 s12 : Slot) (sA : PV), cmpL [5] (tgN 5) noT (binN pyIx 5 (cst (.int 0))) xs2 [] [.val (.lst (ns.map .int)), s1, .val (.lst xs2), z3, y4, y5, z6, s7, .val .non, .val G, .val sA, s11, s12, .non] = .ok ((cs.map (·.1)).map PV.str) [.val (.lst (ns.map .int)), s1, .val (.lst xs2), z3, y4, y5, z6, s7, .val .non, .val G, .val sA, s11, s12, .non] := fun s1 s7 s11 s12 sA => by
      have cm := fm_cmp (vs := [5]) (tg := tgN 5) (t := noT) (e := binN pyIx 5 (cst (.int 0))) (fun x : PV => x) (fun x => PV.str (pnm x)) (fun _ => true) [.val (.lst (ns.map .int)), s1, .val (.lst xs2), z3, y4, y5, z6, s7, .val .non, .val G, .val sA, s11, s12, .non] xs2 (fun x hx => by
        refine ⟨[.val (.lst (ns.map .int)), s1, .val (.lst xs2), z3, y4, .val x, z6, s7, .val .non, .val G, .val sA, s11, s12, .non], by simp, rfl, fun _ => by simp [cix0 (hc x hx)], by simp⟩) xs2 [] (fun _ h => h) (by simp; omega)
      have fl : (xs2.filter fun _ => true) = xs2 := List.filter_eq_self.mpr fun _ _ => rfl
      rw [fl, List.nil_append, List.map_id', show xs2.map (fun x => PV.str (pnm x)) = (xs2.map pnm).map PV.str by simp, h2] at cm
      exact cm
    have sc := sh_columns cs
    have sn := sh_names (cs := cs) (by omega)
    obtain ⟨u, d7, e7, u0, u1, k7⟩ := take_ok (many := 5) k6 (by omega) (by decide) (lt_bigS (by decide))
    obtain ⟨T, hT, iT⟩ := ix_of (xs := [PV.non, .int 5, .str (Str.ofString "a"), .dct [], .bl true]) (i := u) u0 (by simp; omega)
    have nT : itemsOf T = none := by
      simp only [List.mem_cons, List.not_mem_nil, or_false] at hT
      rcases hT with rfl | rfl | rfl | rfl | rfl <;> rfl
    rw [ix_lst] at iT
    have soT : m__law_shape_or_error [.val T] = .ok (.v (.tup [.non, .str (Str.ofString "columns"), .int (-1), .bl true])) [.val T] := by
      rcases soe_ok (x := T) (fun zs e => by rw [nT] at e; cases e) with ⟨_, _, ⟨zs, hi, _⟩, _⟩ | ⟨i, f2, g⟩
      · rw [nT] at hi; cases hi
      · have : faultCs T = some (-1) := by unfold faultCs; rw [nT]
        rw [this] at f2
        cases f2
        exact g
    obtain ⟨y5', eL⟩ := told_loop (cs := cs) ndc (r0 := [.val (.lst (ns.map .int)), .own false (DS.mo d6), .val (.lst xs2), z3, y4]) (r6 := [z6, .own false (.lst ((cs.map (·.1)).map PV.str).reverse), .val .non, .val G, .val (.tup [shp cs, .str (Str.ofString ""), .int 0, .bl true]), .val (shp cs), .own false (.lst []), .non]) rfl ⟨_, _, _, _, _, _, _, rfl⟩ xs2 cs y5 h1 hc (fun _ h => h) mp5
    have eL' : frL (tgN 5) q_law_36 xs2 [.val (.lst (ns.map .int)), .own false (DS.mo d6), .val (.lst xs2), z3, y4, y5, z6, .own false (.lst ((cs.map (·.1)).map PV.str).reverse), .val .non, .val G, .val (.tup [shp cs, .str (Str.ofString ""), .int 0, .bl true]), .val (shp cs), .own false (.lst []), .non] = _ := eL
    have lz : (cs.length : Int) = (xs2.length : Int) := by omega
    unfold shp at *
    simp [-e_law_36, -List.map_map, -List.map_reverse, oI, liG, nE, ix0c, i3, isn, lkS_columns, lkS_names, lk5_5, sc, sn, cmA, neC, show ∀ l, isTy (PV.lst l) .list = true from fun _ => rfl, sv5, m7, clr_is, rev_is, cmB, neN, zx, zc, lcs, eL', e7, z5, iT, soT, ix1c, ix2c, keysOf, mergeP]
  · rw [first _ _ g10]
    rw [fG] at f
    rw [f]
    simp [oI, liG, nE, ix0c, ix1c, ix2c, i3, lint_ok]
end Gk

section
open PySem PySem.Spec L2 TR
set_option maxRecDepth 100000 in
set_option maxHeartbeats 0 in
theorem Gk.all_mk {P : Program} {w : World} {K : PySem.W.Frag} {h : Heap} {mg : Str → Option Value} {fa : Addr} (X : K.In h) (G : h.Ns mainGlobals mg) (hfa : mg "law" = some (.ref fa))
    {Ca3 : Addr} (ca3 : PySem.W.nsIn K mainGlobals "Test" = some (some (.ref Ca3)))
    (pg3 : PySem.W.plainGet K Ca3 Str.empty = true)
    (hd3 : PySem.W.hasDictIn K Ca3 = true)
    (po3 : PySem.W.plainOver K Ca3 = true)
    (sa3 : PySem.W.findIn K (.ref Ca3) "__setattr__" = some (some (.builtin "object.__setattr__")))
    (ha3 : PySem.W.findIn K (.ref Ca3) "__class__" = some (some (.builtin "object.__class__")))
    (hm3 : PySem.W.mroIn K Ca3 (.type "object") = some true)
    (kt3_bool : PySem.W.kitOne K (.ref Ca3) (.type "bool") = some false)
    (kt3_int : PySem.W.kitOne K (.ref Ca3) (.type "int") = some false)
    (kt3_str : PySem.W.kitOne K (.ref Ca3) (.type "str") = some false)
    (kt3_list : PySem.W.kitOne K (.ref Ca3) (.type "list") = some false)
    (kt3_tuple : PySem.W.kitOne K (.ref Ca3) (.type "tuple") = some false)
    (kt3_dict : PySem.W.kitOne K (.ref Ca3) (.type "dict") = some false)
    {Ca5 : Addr} (ca5 : PySem.W.nsIn K mainGlobals "Shape" = some (some (.ref Ca5)))
    (pg5 : PySem.W.plainGet K Ca5 Str.empty = true)
    (hd5 : PySem.W.hasDictIn K Ca5 = true)
    (po5 : PySem.W.plainOver K Ca5 = true)
    (sa5 : PySem.W.findIn K (.ref Ca5) "__setattr__" = some (some (.builtin "object.__setattr__")))
    (ha5 : PySem.W.findIn K (.ref Ca5) "__class__" = some (some (.builtin "object.__class__")))
    (hm5 : PySem.W.mroIn K Ca5 (.type "object") = some true)
    (kt5_bool : PySem.W.kitOne K (.ref Ca5) (.type "bool") = some false)
    (kt5_int : PySem.W.kitOne K (.ref Ca5) (.type "int") = some false)
    (kt5_str : PySem.W.kitOne K (.ref Ca5) (.type "str") = some false)
    (kt5_list : PySem.W.kitOne K (.ref Ca5) (.type "list") = some false)
    (kt5_tuple : PySem.W.kitOne K (.ref Ca5) (.type "tuple") = some false)
    (kt5_dict : PySem.W.kitOne K (.ref Ca5) (.type "dict") = some false)
    (hn0 : PySem.W.specialIn K (.builtin "object.__class__") "__get__" = some (some (.builtin "getset_descriptor.__get__"))) (ht0 : PySem.W.takesIn K (.builtin "object.__class__") = some true)
    (nf3__data : PySem.W.findIn K (.ref Ca3) "_data" = some none)
    (nf3__kind : PySem.W.findIn K (.ref Ca3) "_kind" = some none)
    (nf3__parts : PySem.W.findIn K (.ref Ca3) "_parts" = some none)
    (nf5__checks : PySem.W.findIn K (.ref Ca5) "_checks" = some none)
    (nf5__columns : PySem.W.findIn K (.ref Ca5) "_columns" = some none)
    (nf5__unique : PySem.W.findIn K (.ref Ca5) "_unique" = some none)
    {Ca21 : Addr} (ca21 : PySem.W.nsIn K mainGlobals "BadShape" = some (some (.ref Ca21)))
    (xa21 : PySem.W.excInitIn K Ca21 eTail "Exception.__new__" = true)
    (xb21 : PySem.W.excOver K Ca21 eTail = true)
    (xc21 : PySem.W.hasDictIn K Ca21 = true)
    (xd21 : PySem.W.findIn K (.ref Ca21) "__setattr__" = some (some (.builtin "object.__setattr__")))
    (xe21 : PySem.W.subIn K (.ref Ca21) (.type "BaseException") = some true)
    (xf21 : PySem.W.typeIn K (.ref Ca21) = some (.type "type"))
    (xg21 : PySem.W.keepIn K (.ref Ca21) = true)
    (yc21 : PySem.W.findIn K (.ref Ca21) "__class__" = some (some (.builtin "object.__class__"))) (ym21 : PySem.W.mroIn K Ca21 (.type "object") = some true)
    (xi21 : PySem.W.findIn K (.ref Ca21) "__getattribute__" = some (some (.builtin "BaseException.__getattribute__"))) (xj21 : PySem.W.findIn K (.ref Ca21) "__getattr__" = some none)
    (xn21_at : PySem.W.findIn K (.ref Ca21) "at" = some none)
    (xn21_why : PySem.W.findIn K (.ref Ca21) "why" = some none)
    {Ca22 : Addr} (ca22 : PySem.W.nsIn K mainGlobals "BadRow" = some (some (.ref Ca22)))
    (xa22 : PySem.W.excInitIn K Ca22 eTail "Exception.__new__" = true)
    (xb22 : PySem.W.excOver K Ca22 eTail = true)
    (xc22 : PySem.W.hasDictIn K Ca22 = true)
    (xd22 : PySem.W.findIn K (.ref Ca22) "__setattr__" = some (some (.builtin "object.__setattr__")))
    (xe22 : PySem.W.subIn K (.ref Ca22) (.type "BaseException") = some true)
    (xf22 : PySem.W.typeIn K (.ref Ca22) = some (.type "type"))
    (xg22 : PySem.W.keepIn K (.ref Ca22) = true)
    (yc22 : PySem.W.findIn K (.ref Ca22) "__class__" = some (some (.builtin "object.__class__"))) (ym22 : PySem.W.mroIn K Ca22 (.type "object") = some true)
    (xi22 : PySem.W.findIn K (.ref Ca22) "__getattribute__" = some (some (.builtin "BaseException.__getattribute__"))) (xj22 : PySem.W.findIn K (.ref Ca22) "__getattr__" = some none)
    (xn22_at : PySem.W.findIn K (.ref Ca22) "at" = some none)
    (xn22_column : PySem.W.findIn K (.ref Ca22) "column" = some none)
    (xn22_why : PySem.W.findIn K (.ref Ca22) "why" = some none)
    (xo21 : PySem.W.subIn K (.ref Ca21) (.type "BaseException") = some true) (xp21 : PySem.W.isClsIn K Ca21 = true) (xq21 : PySem.W.typeIn K (.ref Ca21) = some (.type "type"))
    (xm21_21 : PySem.W.subIn K (.ref Ca21) (.ref Ca21) = some true)
    (xm21_22 : PySem.W.subIn K (.ref Ca22) (.ref Ca21) = some false)
    (ke22_21 : PySem.W.kitOne K (.ref Ca21) (.ref Ca22) = some false)
    (ke22_22 : PySem.W.kitOne K (.ref Ca22) (.ref Ca22) = some true)
    {Ca20 : Addr} (ca20 : PySem.W.nsIn K mainGlobals "RowsError" = some (some (.ref Ca20)))
    (ke20_21 : PySem.W.kitOne K (.ref Ca21) (.ref Ca20) = some true)
    (ke20_22 : PySem.W.kitOne K (.ref Ca22) (.ref Ca20) = some true)
    (kb3_NoneType : PySem.W.kitOne K (.type "NoneType") (.ref Ca3) = some false)
    (kb3_bool : PySem.W.kitOne K (.type "bool") (.ref Ca3) = some false)
    (kb3_int : PySem.W.kitOne K (.type "int") (.ref Ca3) = some false)
    (kb3_str : PySem.W.kitOne K (.type "str") (.ref Ca3) = some false)
    (kb3_list : PySem.W.kitOne K (.type "list") (.ref Ca3) = some false)
    (kb3_tuple : PySem.W.kitOne K (.type "tuple") (.ref Ca3) = some false)
    (kb3_dict : PySem.W.kitOne K (.type "dict") (.ref Ca3) = some false)
    (kc3_3 : PySem.W.kitOne K (.ref Ca3) (.ref Ca3) = some true)
    (kc3_5 : PySem.W.kitOne K (.ref Ca5) (.ref Ca3) = some false)
    {f0 : Addr} {od0 an0 : Option Addr} {sl0 : Array (Option Value)} {oc0 kV0 dc0 pm0 cd0 ct0 : Value} (a0 : PySem.W.nsIn K mainGlobals "_law_begin" = some (some (.ref f0))) (l0 : K.lookup f0 = some ⟨oc0, od0, .func (PySem.W.fnOf "_law_begin" "_law_begin" (defArgs Gk.s__law_begin) (defBody Gk.s__law_begin) (defScope Gk.s__law_begin) .none kV0 dc0 pm0 an0 cd0 ct0), sl0⟩) (c0 : PySem.W.codeIn K cd0 "_law_begin" = true) (k0 : PySem.W.keepIn K (.ref f0) = true)
    {f1 : Addr} {od1 an1 : Option Addr} {sl1 : Array (Option Value)} {oc1 kV1 dc1 pm1 cd1 ct1 : Value} (a1 : PySem.W.nsIn K mainGlobals "_law_take" = some (some (.ref f1))) (l1 : K.lookup f1 = some ⟨oc1, od1, .func (PySem.W.fnOf "_law_take" "_law_take" (defArgs Gk.s__law_take) (defBody Gk.s__law_take) (defScope Gk.s__law_take) .none kV1 dc1 pm1 an1 cd1 ct1), sl1⟩) (c1 : PySem.W.codeIn K cd1 "_law_take" = true) (k1 : PySem.W.keepIn K (.ref f1) = true)
    {f2 : Addr} {od2 an2 : Option Addr} {sl2 : Array (Option Value)} {oc2 kV2 dc2 pm2 cd2 ct2 : Value} (a2 : PySem.W.nsIn K mainGlobals "_law_name" = some (some (.ref f2))) (l2 : K.lookup f2 = some ⟨oc2, od2, .func (PySem.W.fnOf "_law_name" "_law_name" (defArgs Gk.s__law_name) (defBody Gk.s__law_name) (defScope Gk.s__law_name) .none kV2 dc2 pm2 an2 cd2 ct2), sl2⟩) (c2 : PySem.W.codeIn K cd2 "_law_name" = true) (k2 : PySem.W.keepIn K (.ref f2) = true)
    {f3 : Addr} {od3 an3 : Option Addr} {sl3 : Array (Option Value)} {oc3 kV3 dc3 pm3 cd3 ct3 : Value} (a3 : PySem.W.nsIn K mainGlobals "_law_is_column" = some (some (.ref f3))) (l3 : K.lookup f3 = some ⟨oc3, od3, .func (PySem.W.fnOf "_law_is_column" "_law_is_column" (defArgs Gk.s__law_is_column) (defBody Gk.s__law_is_column) (defScope Gk.s__law_is_column) .none kV3 dc3 pm3 an3 cd3 ct3), sl3⟩) (c3 : PySem.W.codeIn K cd3 "_law_is_column" = true) (k3 : PySem.W.keepIn K (.ref f3) = true)
    {f4 : Addr} {od4 an4 : Option Addr} {sl4 : Array (Option Value)} {oc4 kV4 dc4 pm4 cd4 ct4 : Value} (a4 : PySem.W.nsIn K mainGlobals "_law_spoiled" = some (some (.ref f4))) (l4 : K.lookup f4 = some ⟨oc4, od4, .func (PySem.W.fnOf "_law_spoiled" "_law_spoiled" (defArgs Gk.s__law_spoiled) (defBody Gk.s__law_spoiled) (defScope Gk.s__law_spoiled) .none kV4 dc4 pm4 an4 cd4 ct4), sl4⟩) (c4 : PySem.W.codeIn K cd4 "_law_spoiled" = true) (k4 : PySem.W.keepIn K (.ref f4) = true)
    {f5 : Addr} {od5 an5 : Option Addr} {sl5 : Array (Option Value)} {oc5 kV5 dc5 pm5 cd5 ct5 : Value} (a5 : PySem.W.nsIn K mainGlobals "_law_due" = some (some (.ref f5))) (l5 : K.lookup f5 = some ⟨oc5, od5, .func (PySem.W.fnOf "_law_due" "_law_due" (defArgs Gk.s__law_due) (defBody Gk.s__law_due) (defScope Gk.s__law_due) .none kV5 dc5 pm5 an5 cd5 ct5), sl5⟩) (c5 : PySem.W.codeIn K cd5 "_law_due" = true) (k5 : PySem.W.keepIn K (.ref f5) = true)
    {f6 : Addr} {od6 an6 : Option Addr} {sl6 : Array (Option Value)} {oc6 kV6 dc6 pm6 cd6 ct6 : Value} (a6 : PySem.W.nsIn K mainGlobals "is_sequence" = some (some (.ref f6))) (l6 : K.lookup f6 = some ⟨oc6, od6, .func (PySem.W.fnOf "is_sequence" "is_sequence" (defArgs Gk.s_is_sequence) (defBody Gk.s_is_sequence) (defScope Gk.s_is_sequence) .none kV6 dc6 pm6 an6 cd6 ct6), sl6⟩) (c6 : PySem.W.codeIn K cd6 "is_sequence" = true) (k6 : PySem.W.keepIn K (.ref f6) = true)
    {f7 : Addr} {od7 an7 : Option Addr} {sl7 : Array (Option Value)} {oc7 kV7 dc7 pm7 cd7 ct7 : Value} (a7 : PySem.W.findIn K (.ref Ca21) "__init__" = some (some (.ref f7))) (l7 : K.lookup f7 = some ⟨oc7, od7, .func (PySem.W.fnOf "__init__" "BadShape.__init__" (defArgs Gk.s_BadShape____init__) (defBody Gk.s_BadShape____init__) (defScope Gk.s_BadShape____init__) .none kV7 dc7 pm7 an7 cd7 ct7), sl7⟩) (c7 : PySem.W.codeIn K cd7 "BadShape.__init__" = true) (k7 : PySem.W.keepIn K (.ref f7) = true) (e7 : PySem.W.typeIn K (.ref f7) = some (.type "function"))
    {f8 : Addr} {od8 an8 : Option Addr} {sl8 : Array (Option Value)} {oc8 kV8 dc8 pm8 cd8 ct8 : Value} (a8 : PySem.W.nsIn K mainGlobals "is_name" = some (some (.ref f8))) (l8 : K.lookup f8 = some ⟨oc8, od8, .func (PySem.W.fnOf "is_name" "is_name" (defArgs Gk.s_is_name) (defBody Gk.s_is_name) (defScope Gk.s_is_name) .none kV8 dc8 pm8 an8 cd8 ct8), sl8⟩) (c8 : PySem.W.codeIn K cd8 "is_name" = true) (k8 : PySem.W.keepIn K (.ref f8) = true)
    {f9 : Addr} {od9 an9 : Option Addr} {sl9 : Array (Option Value)} {oc9 kV9 dc9 pm9 cd9 ct9 : Value} (a9 : PySem.W.nsIn K mainGlobals "is_flag" = some (some (.ref f9))) (l9 : K.lookup f9 = some ⟨oc9, od9, .func (PySem.W.fnOf "is_flag" "is_flag" (defArgs Gk.s_is_flag) (defBody Gk.s_is_flag) (defScope Gk.s_is_flag) .none kV9 dc9 pm9 an9 cd9 ct9), sl9⟩) (c9 : PySem.W.codeIn K cd9 "is_flag" = true) (k9 : PySem.W.keepIn K (.ref f9) = true)
    {f10 : Addr} {od10 an10 : Option Addr} {sl10 : Array (Option Value)} {oc10 kV10 dc10 pm10 cd10 ct10 : Value} (a10 : PySem.W.nsIn K mainGlobals "is_column" = some (some (.ref f10))) (l10 : K.lookup f10 = some ⟨oc10, od10, .func (PySem.W.fnOf "is_column" "is_column" (defArgs Gk.s_is_column) (defBody Gk.s_is_column) (defScope Gk.s_is_column) .none kV10 dc10 pm10 an10 cd10 ct10), sl10⟩) (c10 : PySem.W.codeIn K cd10 "is_column" = true) (k10 : PySem.W.keepIn K (.ref f10) = true)
    {f11 : Addr} {od11 an11 : Option Addr} {sl11 : Array (Option Value)} {oc11 kV11 dc11 pm11 cd11 ct11 : Value} (a11 : PySem.W.nsIn K mainGlobals "read_columns" = some (some (.ref f11))) (l11 : K.lookup f11 = some ⟨oc11, od11, .func (PySem.W.fnOf "read_columns" "read_columns" (defArgs Gk.s_read_columns) (defBody Gk.s_read_columns) (defScope Gk.s_read_columns) .none kV11 dc11 pm11 an11 cd11 ct11), sl11⟩) (c11 : PySem.W.codeIn K cd11 "read_columns" = true) (k11 : PySem.W.keepIn K (.ref f11) = true)
    {f12 : Addr} {od12 an12 : Option Addr} {sl12 : Array (Option Value)} {oc12 kV12 dc12 pm12 cd12 ct12 : Value} (a12 : PySem.W.findIn K (.ref Ca5) "names" = some (some (.ref f12))) (l12 : K.lookup f12 = some ⟨oc12, od12, .func (PySem.W.fnOf "names" "Shape.names" (defArgs Gk.s_Shape__names) (defBody Gk.s_Shape__names) (defScope Gk.s_Shape__names) .none kV12 dc12 pm12 an12 cd12 ct12), sl12⟩) (c12 : PySem.W.codeIn K cd12 "Shape.names" = true) (k12 : PySem.W.keepIn K (.ref f12) = true) (e12 : PySem.W.isFn K (.ref f12) = true)
    {f13 : Addr} {od13 an13 : Option Addr} {sl13 : Array (Option Value)} {oc13 kV13 dc13 pm13 cd13 ct13 : Value} (a13 : PySem.W.findIn K (.ref Ca3) "atoms" = some (some (.ref f13))) (l13 : K.lookup f13 = some ⟨oc13, od13, .func (PySem.W.fnOf "atoms" "Test.atoms" (defArgs Gk.s_Test__atoms) (defBody Gk.s_Test__atoms) (defScope Gk.s_Test__atoms) .none kV13 dc13 pm13 an13 cd13 ct13), sl13⟩) (c13 : PySem.W.codeIn K cd13 "Test.atoms" = true) (k13 : PySem.W.keepIn K (.ref f13) = true) (e13 : PySem.W.isFn K (.ref f13) = true)
    {f14 : Addr} {od14 an14 : Option Addr} {sl14 : Array (Option Value)} {oc14 kV14 dc14 pm14 cd14 ct14 : Value} (a14 : PySem.W.findIn K (.ref Ca3) "data" = some (some (.ref f14))) (l14 : K.lookup f14 = some ⟨oc14, od14, .func (PySem.W.fnOf "data" "Test.data" (defArgs Gk.s_Test__data) (defBody Gk.s_Test__data) (defScope Gk.s_Test__data) .none kV14 dc14 pm14 an14 cd14 ct14), sl14⟩) (c14 : PySem.W.codeIn K cd14 "Test.data" = true) (k14 : PySem.W.keepIn K (.ref f14) = true) (e14 : PySem.W.isFn K (.ref f14) = true)
    {f15 : Addr} {od15 an15 : Option Addr} {sl15 : Array (Option Value)} {oc15 kV15 dc15 pm15 cd15 ct15 : Value} (a15 : PySem.W.findIn K (.ref Ca3) "kind" = some (some (.ref f15))) (l15 : K.lookup f15 = some ⟨oc15, od15, .func (PySem.W.fnOf "kind" "Test.kind" (defArgs Gk.s_Test__kind) (defBody Gk.s_Test__kind) (defScope Gk.s_Test__kind) .none kV15 dc15 pm15 an15 cd15 ct15), sl15⟩) (c15 : PySem.W.codeIn K cd15 "Test.kind" = true) (k15 : PySem.W.keepIn K (.ref f15) = true) (e15 : PySem.W.isFn K (.ref f15) = true)
    {f16 : Addr} {od16 an16 : Option Addr} {sl16 : Array (Option Value)} {oc16 kV16 dc16 pm16 cd16 ct16 : Value} (a16 : PySem.W.nsIn K mainGlobals "columns_of" = some (some (.ref f16))) (l16 : K.lookup f16 = some ⟨oc16, od16, .func (PySem.W.fnOf "columns_of" "columns_of" (defArgs Gk.s_columns_of) (defBody Gk.s_columns_of) (defScope Gk.s_columns_of) .none kV16 dc16 pm16 an16 cd16 ct16), sl16⟩) (c16 : PySem.W.codeIn K cd16 "columns_of" = true) (k16 : PySem.W.keepIn K (.ref f16) = true)
    {f17 : Addr} {od17 an17 : Option Addr} {sl17 : Array (Option Value)} {oc17 kV17 dc17 pm17 cd17 ct17 : Value} (a17 : PySem.W.nsIn K mainGlobals "sorted_plain" = some (some (.ref f17))) (l17 : K.lookup f17 = some ⟨oc17, od17, .func (PySem.W.fnOf "sorted_plain" "sorted_plain" (defArgs Gk.s_sorted_plain) (defBody Gk.s_sorted_plain) (defScope Gk.s_sorted_plain) .none kV17 dc17 pm17 an17 cd17 ct17), sl17⟩) (c17 : PySem.W.codeIn K cd17 "sorted_plain" = true) (k17 : PySem.W.keepIn K (.ref f17) = true)
    {f18 : Addr} {od18 an18 : Option Addr} {sl18 : Array (Option Value)} {oc18 kV18 dc18 pm18 cd18 ct18 : Value} (a18 : PySem.W.findIn K (.ref Ca3) "names" = some (some (.ref f18))) (l18 : K.lookup f18 = some ⟨oc18, od18, .func (PySem.W.fnOf "names" "Test.names" (defArgs Gk.s_Test__names) (defBody Gk.s_Test__names) (defScope Gk.s_Test__names) .none kV18 dc18 pm18 an18 cd18 ct18), sl18⟩) (c18 : PySem.W.codeIn K cd18 "Test.names" = true) (k18 : PySem.W.keepIn K (.ref f18) = true) (e18 : PySem.W.isFn K (.ref f18) = true)
    {f19 : Addr} {od19 an19 : Option Addr} {sl19 : Array (Option Value)} {oc19 kV19 dc19 pm19 cd19 ct19 : Value} (a19 : PySem.W.nsIn K mainGlobals "is_integer" = some (some (.ref f19))) (l19 : K.lookup f19 = some ⟨oc19, od19, .func (PySem.W.fnOf "is_integer" "is_integer" (defArgs Gk.s_is_integer) (defBody Gk.s_is_integer) (defScope Gk.s_is_integer) .none kV19 dc19 pm19 an19 cd19 ct19), sl19⟩) (c19 : PySem.W.codeIn K cd19 "is_integer" = true) (k19 : PySem.W.keepIn K (.ref f19) = true)
    {f20 : Addr} {od20 an20 : Option Addr} {sl20 : Array (Option Value)} {oc20 kV20 dc20 pm20 cd20 ct20 : Value} (a20 : PySem.W.nsIn K mainGlobals "is_text" = some (some (.ref f20))) (l20 : K.lookup f20 = some ⟨oc20, od20, .func (PySem.W.fnOf "is_text" "is_text" (defArgs Gk.s_is_text) (defBody Gk.s_is_text) (defScope Gk.s_is_text) .none kV20 dc20 pm20 an20 cd20 ct20), sl20⟩) (c20 : PySem.W.codeIn K cd20 "is_text" = true) (k20 : PySem.W.keepIn K (.ref f20) = true)
    {f21 : Addr} {od21 an21 : Option Addr} {sl21 : Array (Option Value)} {oc21 kV21 dc21 pm21 cd21 ct21 : Value} (a21 : PySem.W.nsIn K mainGlobals "kind_of" = some (some (.ref f21))) (l21 : K.lookup f21 = some ⟨oc21, od21, .func (PySem.W.fnOf "kind_of" "kind_of" (defArgs Gk.s_kind_of) (defBody Gk.s_kind_of) (defScope Gk.s_kind_of) .none kV21 dc21 pm21 an21 cd21 ct21), sl21⟩) (c21 : PySem.W.codeIn K cd21 "kind_of" = true) (k21 : PySem.W.keepIn K (.ref f21) = true)
    {f22 : Addr} {od22 an22 : Option Addr} {sl22 : Array (Option Value)} {oc22 kV22 dc22 pm22 cd22 ct22 : Value} (a22 : PySem.W.nsIn K mainGlobals "is_value" = some (some (.ref f22))) (l22 : K.lookup f22 = some ⟨oc22, od22, .func (PySem.W.fnOf "is_value" "is_value" (defArgs Gk.s_is_value) (defBody Gk.s_is_value) (defScope Gk.s_is_value) .none kV22 dc22 pm22 an22 cd22 ct22), sl22⟩) (c22 : PySem.W.codeIn K cd22 "is_value" = true) (k22 : PySem.W.keepIn K (.ref f22) = true)
    {f23 : Addr} {od23 an23 : Option Addr} {sl23 : Array (Option Value)} {oc23 kV23 dc23 pm23 cd23 ct23 : Value} (a23 : PySem.W.nsIn K mainGlobals "atom_fits" = some (some (.ref f23))) (l23 : K.lookup f23 = some ⟨oc23, od23, .func (PySem.W.fnOf "atom_fits" "atom_fits" (defArgs Gk.s_atom_fits) (defBody Gk.s_atom_fits) (defScope Gk.s_atom_fits) .none kV23 dc23 pm23 an23 cd23 ct23), sl23⟩) (c23 : PySem.W.codeIn K cd23 "atom_fits" = true) (k23 : PySem.W.keepIn K (.ref f23) = true)
    {f24 : Addr} {od24 an24 : Option Addr} {sl24 : Array (Option Value)} {oc24 kV24 dc24 pm24 cd24 ct24 : Value} (a24 : PySem.W.nsIn K mainGlobals "fits_columns" = some (some (.ref f24))) (l24 : K.lookup f24 = some ⟨oc24, od24, .func (PySem.W.fnOf "fits_columns" "fits_columns" (defArgs Gk.s_fits_columns) (defBody Gk.s_fits_columns) (defScope Gk.s_fits_columns) .none kV24 dc24 pm24 an24 cd24 ct24), sl24⟩) (c24 : PySem.W.codeIn K cd24 "fits_columns" = true) (k24 : PySem.W.keepIn K (.ref f24) = true)
    {f25 : Addr} {od25 an25 : Option Addr} {sl25 : Array (Option Value)} {oc25 kV25 dc25 pm25 cd25 ct25 : Value} (a25 : PySem.W.nsIn K mainGlobals "read_checks" = some (some (.ref f25))) (l25 : K.lookup f25 = some ⟨oc25, od25, .func (PySem.W.fnOf "read_checks" "read_checks" (defArgs Gk.s_read_checks) (defBody Gk.s_read_checks) (defScope Gk.s_read_checks) .none kV25 dc25 pm25 an25 cd25 ct25), sl25⟩) (c25 : PySem.W.codeIn K cd25 "read_checks" = true) (k25 : PySem.W.keepIn K (.ref f25) = true)
    {f26 : Addr} {od26 an26 : Option Addr} {sl26 : Array (Option Value)} {oc26 kV26 dc26 pm26 cd26 ct26 : Value} (a26 : PySem.W.nsIn K mainGlobals "once" = some (some (.ref f26))) (l26 : K.lookup f26 = some ⟨oc26, od26, .func (PySem.W.fnOf "once" "once" (defArgs Gk.s_once) (defBody Gk.s_once) (defScope Gk.s_once) .none kV26 dc26 pm26 an26 cd26 ct26), sl26⟩) (c26 : PySem.W.codeIn K cd26 "once" = true) (k26 : PySem.W.keepIn K (.ref f26) = true)
    {f27 : Addr} {od27 an27 : Option Addr} {sl27 : Array (Option Value)} {oc27 kV27 dc27 pm27 cd27 ct27 : Value} (a27 : PySem.W.nsIn K mainGlobals "is_key" = some (some (.ref f27))) (l27 : K.lookup f27 = some ⟨oc27, od27, .func (PySem.W.fnOf "is_key" "is_key" (defArgs Gk.s_is_key) (defBody Gk.s_is_key) (defScope Gk.s_is_key) .none kV27 dc27 pm27 an27 cd27 ct27), sl27⟩) (c27 : PySem.W.codeIn K cd27 "is_key" = true) (k27 : PySem.W.keepIn K (.ref f27) = true)
    {f28 : Addr} {od28 an28 : Option Addr} {sl28 : Array (Option Value)} {oc28 kV28 dc28 pm28 cd28 ct28 : Value} (a28 : PySem.W.nsIn K mainGlobals "read_keys" = some (some (.ref f28))) (l28 : K.lookup f28 = some ⟨oc28, od28, .func (PySem.W.fnOf "read_keys" "read_keys" (defArgs Gk.s_read_keys) (defBody Gk.s_read_keys) (defScope Gk.s_read_keys) .none kV28 dc28 pm28 an28 cd28 ct28), sl28⟩) (c28 : PySem.W.codeIn K cd28 "read_keys" = true) (k28 : PySem.W.keepIn K (.ref f28) = true)
    {f29 Dk29 : Addr} {od29 an29 : Option Addr} {sl29 : Array (Option Value)} {oc29 dc29 pm29 cd29 ct29 : Value} (a29 : PySem.W.findIn K (.ref Ca5) "__init__" = some (some (.ref f29))) (l29 : K.lookup f29 = some ⟨oc29, od29, .func (PySem.W.fnOf "__init__" "Shape.__init__" (defArgs Gk.s_Shape____init__) (defBody Gk.s_Shape____init__) (defScope Gk.s_Shape____init__) .none (.ref Dk29) dc29 pm29 an29 cd29 ct29), sl29⟩) (c29 : PySem.W.codeIn K cd29 "Shape.__init__" = true) (k29 : PySem.W.keepIn K (.ref f29) = true) (e29 : PySem.W.isFn K (.ref f29) = true)
    (mk5 : PySem.W.makesIn K Ca5 = true) (kp5 : PySem.W.keepIn K (.ref Ca5) = true)
    {f30 : Addr} {od30 an30 : Option Addr} {sl30 : Array (Option Value)} {oc30 kV30 dc30 pm30 cd30 ct30 : Value} (a30 : PySem.W.nsIn K mainGlobals "_law_shape_or_error" = some (some (.ref f30))) (l30 : K.lookup f30 = some ⟨oc30, od30, .func (PySem.W.fnOf "_law_shape_or_error" "_law_shape_or_error" (defArgs Gk.s__law_shape_or_error) (defBody Gk.s__law_shape_or_error) (defScope Gk.s__law_shape_or_error) .none kV30 dc30 pm30 an30 cd30 ct30), sl30⟩) (c30 : PySem.W.codeIn K cd30 "_law_shape_or_error" = true) (k30 : PySem.W.keepIn K (.ref f30) = true)
    {f31 : Addr} {od31 an31 : Option Addr} {sl31 : Array (Option Value)} {oc31 kV31 dc31 pm31 cd31 ct31 : Value} (a31 : PySem.W.nsIn K mainGlobals "_law_is_integer" = some (some (.ref f31))) (l31 : K.lookup f31 = some ⟨oc31, od31, .func (PySem.W.fnOf "_law_is_integer" "_law_is_integer" (defArgs Gk.s__law_is_integer) (defBody Gk.s__law_is_integer) (defScope Gk.s__law_is_integer) .none kV31 dc31 pm31 an31 cd31 ct31), sl31⟩) (c31 : PySem.W.codeIn K cd31 "_law_is_integer" = true) (k31 : PySem.W.keepIn K (.ref f31) = true)
    {f32 : Addr} {od32 an32 : Option Addr} {sl32 : Array (Option Value)} {oc32 kV32 dc32 pm32 cd32 ct32 : Value} (a32 : PySem.W.findIn K (.ref Ca5) "columns" = some (some (.ref f32))) (l32 : K.lookup f32 = some ⟨oc32, od32, .func (PySem.W.fnOf "columns" "Shape.columns" (defArgs Gk.s_Shape__columns) (defBody Gk.s_Shape__columns) (defScope Gk.s_Shape__columns) .none kV32 dc32 pm32 an32 cd32 ct32), sl32⟩) (c32 : PySem.W.codeIn K cd32 "Shape.columns" = true) (k32 : PySem.W.keepIn K (.ref f32) = true) (e32 : PySem.W.isFn K (.ref f32) = true)
    {f33 : Addr} {od33 an33 : Option Addr} {sl33 : Array (Option Value)} {oc33 kV33 dc33 pm33 cd33 ct33 : Value} (a33 : PySem.W.findIn K (.ref Ca22) "__init__" = some (some (.ref f33))) (l33 : K.lookup f33 = some ⟨oc33, od33, .func (PySem.W.fnOf "__init__" "BadRow.__init__" (defArgs Gk.s_BadRow____init__) (defBody Gk.s_BadRow____init__) (defScope Gk.s_BadRow____init__) .none kV33 dc33 pm33 an33 cd33 ct33), sl33⟩) (c33 : PySem.W.codeIn K cd33 "BadRow.__init__" = true) (k33 : PySem.W.keepIn K (.ref f33) = true) (e33 : PySem.W.typeIn K (.ref f33) = some (.type "function"))
    {f34 : Addr} {od34 an34 : Option Addr} {sl34 : Array (Option Value)} {oc34 kV34 dc34 pm34 cd34 ct34 : Value} (a34 : PySem.W.nsIn K mainGlobals "find_column" = some (some (.ref f34))) (l34 : K.lookup f34 = some ⟨oc34, od34, .func (PySem.W.fnOf "find_column" "find_column" (defArgs Gk.s_find_column) (defBody Gk.s_find_column) (defScope Gk.s_find_column) .none kV34 dc34 pm34 an34 cd34 ct34), sl34⟩) (c34 : PySem.W.codeIn K cd34 "find_column" = true) (k34 : PySem.W.keepIn K (.ref f34) = true)
    {f35 : Addr} {od35 an35 : Option Addr} {sl35 : Array (Option Value)} {oc35 kV35 dc35 pm35 cd35 ct35 : Value} (a35 : PySem.W.findIn K (.ref Ca5) "kind" = some (some (.ref f35))) (l35 : K.lookup f35 = some ⟨oc35, od35, .func (PySem.W.fnOf "kind" "Shape.kind" (defArgs Gk.s_Shape__kind) (defBody Gk.s_Shape__kind) (defScope Gk.s_Shape__kind) .none kV35 dc35 pm35 an35 cd35 ct35), sl35⟩) (c35 : PySem.W.codeIn K cd35 "Shape.kind" = true) (k35 : PySem.W.keepIn K (.ref f35) = true) (e35 : PySem.W.isFn K (.ref f35) = true)
    {f36 : Addr} {od36 an36 : Option Addr} {sl36 : Array (Option Value)} {oc36 kV36 dc36 pm36 cd36 ct36 : Value} (a36 : PySem.W.nsIn K mainGlobals "_law_flag" = some (some (.ref f36))) (l36 : K.lookup f36 = some ⟨oc36, od36, .func (PySem.W.fnOf "_law_flag" "_law_flag" (defArgs Gk.s__law_flag) (defBody Gk.s__law_flag) (defScope Gk.s__law_flag) .none kV36 dc36 pm36 an36 cd36 ct36), sl36⟩) (c36 : PySem.W.codeIn K cd36 "_law_flag" = true) (k36 : PySem.W.keepIn K (.ref f36) = true)
    {f37 : Addr} {od37 an37 : Option Addr} {sl37 : Array (Option Value)} {oc37 kV37 dc37 pm37 cd37 ct37 : Value} (a37 : PySem.W.findIn K (.ref Ca5) "filled" = some (some (.ref f37))) (l37 : K.lookup f37 = some ⟨oc37, od37, .func (PySem.W.fnOf "filled" "Shape.filled" (defArgs Gk.s_Shape__filled) (defBody Gk.s_Shape__filled) (defScope Gk.s_Shape__filled) .none kV37 dc37 pm37 an37 cd37 ct37), sl37⟩) (c37 : PySem.W.codeIn K cd37 "Shape.filled" = true) (k37 : PySem.W.keepIn K (.ref f37) = true) (e37 : PySem.W.isFn K (.ref f37) = true)
    {f38 : Addr} {od38 an38 : Option Addr} {sl38 : Array (Option Value)} {oc38 kV38 dc38 pm38 cd38 ct38 : Value} (a38 : PySem.W.nsIn K mainGlobals "law" = some (some (.ref f38))) (l38 : K.lookup f38 = some ⟨oc38, od38, .func (PySem.W.fnOf "law" "law" (defArgs Gk.s_law) (defBody Gk.s_law) (defScope Gk.s_law) .none kV38 dc38 pm38 an38 cd38 ct38), sl38⟩) (c38 : PySem.W.codeIn K cd38 "law" = true) (k38 : PySem.W.keepIn K (.ref f38) = true)
    (ue3_5 : (Ca3 == Ca5) = false)
    {ta3001 : Addr} {td3001 : Option Addr} {tn3001 : Nat} {ts3001 : Array (Option Value)} (w3001 : K.lookup ta3001 = some ⟨.type "tuple", td3001, .seq #[] tn3001, ts3001⟩) (kd29_0 : PySem.W.nsIn K Dk29 "checks" = some (some (.ref ta3001)))
    {ta3002 : Addr} {td3002 : Option Addr} {tn3002 : Nat} {ts3002 : Array (Option Value)} (w3002 : K.lookup ta3002 = some ⟨.type "tuple", td3002, .seq #[] tn3002, ts3002⟩) (kd29_1 : PySem.W.nsIn K Dk29 "keys" = some (some (.ref ta3002)))
    (z0 : PySem.W.nsIn K mainGlobals "bool" = some none)
    (z1 : PySem.W.nsIn K mainGlobals "enumerate" = some none)
    (z2 : PySem.W.nsIn K mainGlobals "int" = some none)
    (z3 : PySem.W.nsIn K mainGlobals "isinstance" = some none)
    (z4 : PySem.W.nsIn K mainGlobals "len" = some none)
    (z5 : PySem.W.nsIn K mainGlobals "list" = some none)
    (z6 : PySem.W.nsIn K mainGlobals "range" = some none)
    (z7 : PySem.W.nsIn K mainGlobals "str" = some none)
    (z8 : PySem.W.nsIn K mainGlobals "tuple" = some none)
    {tk1 : Tok}  (cn0 : PySem.W.nsIn K mainGlobals "CHARS" = some (some (.str " !\"#$&'()*+,-./0123456789:;<=>?@ABCDEFGHIJKLMNOPQRSTUVWXYZ[\\]^_`abcdefghijklmnopqrstuvwxyz{|}~" tk1)))
    {tk2 : Tok}  (cn1 : PySem.W.nsIn K mainGlobals "DIGITS" = some (some (.str "0123456789" tk2)))
    {tk4 : Tok} {tk5 : Tok} {tk6 : Tok} {tk7 : Tok} {tk8 : Tok} {tk9 : Tok} {tk10 : Tok} {tk11 : Tok} {tk12 : Tok} {tk13 : Tok} {ta3 : Addr} {td3 : Option Addr} {tn3 : Nat} {ts3 : Array (Option Value)} (w3 : K.lookup ta3 = some ⟨.type "tuple", td3, .seq #[(.str "and" tk4), (.str "or" tk5), (.str "not" tk6), (.str "sure" tk7), (.str "in" tk8), (.str "is" tk9), (.str "empty" tk10), (.str "begins" tk11), (.str "always" tk12), (.str "never" tk13)] tn3, ts3⟩) (cn2 : PySem.W.nsIn K mainGlobals "KEPT_WORDS" = some (some (.ref ta3)))
    {tk14 : Tok}  (cn3 : PySem.W.nsIn K mainGlobals "LETTERS" = some (some (.str "abcdefghijklmnopqrstuvwxyz" tk14)))
    {tk15 : Tok}  (cn4 : PySem.W.nsIn K mainGlobals "MOST_COLUMNS" = some (some (.int 12 tk15)))
    {tk16 : Tok}  (cn5 : PySem.W.nsIn K mainGlobals "MOST_RULES" = some (some (.int 9 tk16))) :
    ∃ fd : FuncData, (∀ (s : Shared) (v : Value), BindsTo s fd ⟨[v], []⟩ [("_law_script", v)]) ∧ ∀ base : Heap, K.In base → base.Ns mainGlobals mg → FnOk P w K mg base (L2.CX P w) 50 fa fd ["_law_script"] (SpL K Gk.m_law) := by
  have cl3 : Cls K Ca3 := ⟨pg3, hd3, po3, sa3⟩
  have hD3 : ∀ C, (Gk.DW K mg).T 3 C → mg "Test" = some (.ref C) := fun C t => Gk.cls_3.mp t
  have hE3 : ∀ C, mg "Test" = some (.ref C) → (Gk.DW K mg).T 3 C := fun C t => Gk.cls_3.mpr t
  have mgc3 : mg "Test" = some (.ref Ca3) := PySem.W.mg_of X G ca3
  have is3 : IsF K Ca3 := ⟨⟨cl3, ha3, hn0, ht0, hm3⟩, fun T => by cases T <;> assumption⟩
  have cl5 : Cls K Ca5 := ⟨pg5, hd5, po5, sa5⟩
  have hD5 : ∀ C, (Gk.DW K mg).T 5 C → mg "Shape" = some (.ref C) := fun C t => Gk.cls_5.mp t
  have hE5 : ∀ C, mg "Shape" = some (.ref C) → (Gk.DW K mg).T 5 C := fun C t => Gk.cls_5.mpr t
  have mgc5 : mg "Shape" = some (.ref Ca5) := PySem.W.mg_of X G ca5
  have is5 : IsF K Ca5 := ⟨⟨cl5, ha5, hn0, ht0, hm5⟩, fun T => by cases T <;> assumption⟩
  have hT : IsAll (Gk.DW K mg) := by
    intro c C t
    rcases (show Gk.clsT mg c C from t) with ⟨rfl, t2⟩ | ⟨rfl, t2⟩
    · have e := mgc3.symm.trans t2
      cases e
      exact is3
    · have e := mgc5.symm.trans t2
      cases e
      exact is5
  have ic3 : IsAt (Gk.DW K mg) mg "Test" [3] := by
    refine ⟨Ca3, mgc3, ?_, ?_⟩
    · intro n hn
      simp only [List.mem_cons, List.not_mem_nil, or_false] at hn
      rcases hn with rfl | rfl | rfl | rfl | rfl | rfl | rfl <;> assumption
    · intro c C t
      rcases (show Gk.clsT mg c C from t) with ⟨rfl, t2⟩ | ⟨rfl, t2⟩
      · have e := mgc3.symm.trans t2
        cases e
        exact kc3_3
      · have e := mgc5.symm.trans t2
        cases e
        exact kc3_5
  have mgc21 : mg "BadShape" = some (.ref Ca21) := PySem.W.mg_of X G ca21
  have XC21 : XcC K Ca21 := ⟨xa21, xb21, xc21, xd21, xe21, xf21, xg21⟩
  have hX21 : (Gk.DW K mg).E 21 Ca21 := by show Gk.excT mg 21 Ca21; unfold Gk.excT; simp [mgc21]
  have mgc22 : mg "BadRow" = some (.ref Ca22) := PySem.W.mg_of X G ca22
  have XC22 : XcC K Ca22 := ⟨xa22, xb22, xc22, xd22, xe22, xf22, xg22⟩
  have hX22 : (Gk.DW K mg).E 22 Ca22 := by show Gk.excT mg 22 Ca22; unfold Gk.excT; simp [mgc22]
  have ct_BadShape : CatchAt (Gk.DW K mg) mg "BadShape" [21] := by
    refine ⟨Ca21, PySem.W.mg_of X G ca21, fun c C t => ?_⟩
    rcases (show Gk.excT mg c C from t) with ⟨rfl, t2⟩ | ⟨rfl, t2⟩
    · have e := mgc21.symm.trans t2
      cases e
      exact exm_mk xo21 xp21 xq21 xm21_21
    · have e := mgc22.symm.trans t2
      cases e
      exact exm_mk xo21 xp21 xq21 xm21_22
  have xw_at : XfAt (Gk.DW K mg) "at" := by
    refine ⟨fun c C t => ?_⟩
    rcases (show Gk.excT mg c C from t) with ⟨rfl, t2⟩ | ⟨rfl, t2⟩
    · have e := mgc21.symm.trans t2
      cases e
      exact ⟨⟨xi21, xj21, xe21, xc21⟩, xn21_at⟩
    · have e := mgc22.symm.trans t2
      cases e
      exact ⟨⟨xi22, xj22, xe22, xc22⟩, xn22_at⟩
  have xw_why : XfAt (Gk.DW K mg) "why" := by
    refine ⟨fun c C t => ?_⟩
    rcases (show Gk.excT mg c C from t) with ⟨rfl, t2⟩ | ⟨rfl, t2⟩
    · have e := mgc21.symm.trans t2
      cases e
      exact ⟨⟨xi21, xj21, xe21, xc21⟩, xn21_why⟩
    · have e := mgc22.symm.trans t2
      cases e
      exact ⟨⟨xi22, xj22, xe22, xc22⟩, xn22_why⟩
  have xv_BadRow : XiAt (Gk.DW K mg) mg "BadRow" [22] := by
    refine ⟨Ca22, PySem.W.mg_of X G ca22, fun c C t => ?_⟩
    rcases (show Gk.excT mg c C from t) with ⟨rfl, t2⟩ | ⟨rfl, t2⟩
    · have e := mgc21.symm.trans t2
      cases e
      exact ⟨⟨xi21, xj21, xe21, xc21, yc21, hn0, ht0, ym21⟩, ke22_21⟩
    · have e := mgc22.symm.trans t2
      cases e
      exact ⟨⟨xi22, xj22, xe22, xc22, yc22, hn0, ht0, ym22⟩, ke22_22⟩
  have xv_RowsError : XiAt (Gk.DW K mg) mg "RowsError" [21, 22] := by
    refine ⟨Ca20, PySem.W.mg_of X G ca20, fun c C t => ?_⟩
    rcases (show Gk.excT mg c C from t) with ⟨rfl, t2⟩ | ⟨rfl, t2⟩
    · have e := mgc21.symm.trans t2
      cases e
      exact ⟨⟨xi21, xj21, xe21, xc21, yc21, hn0, ht0, ym21⟩, ke20_21⟩
    · have e := mgc22.symm.trans t2
      cases e
      exact ⟨⟨xi22, xj22, xe22, xc22, yc22, hn0, ht0, ym22⟩, ke20_22⟩
  have uqT : UqT (Gk.DW K mg) := by
    intro c c2 C t t2
    rcases (show Gk.clsT mg c C from t) with ⟨rfl, u1⟩ | ⟨rfl, u1⟩ <;> rcases (show Gk.clsT mg c2 C from t2) with ⟨rfl, u2⟩ | ⟨rfl, u2⟩
    · rfl
    · have e1 := mgc3.symm.trans u1
      have e2 := mgc5.symm.trans u2
      cases e1
      cases e2
      simp at ue3_5
    · have e1 := mgc5.symm.trans u1
      have e2 := mgc3.symm.trans u2
      cases e1
      cases e2
      simp at ue3_5
    · rfl
  have B : Gk.BN K mg := ⟨hT, PySem.W.mg_none_of X G z0, PySem.W.mg_none_of X G z1, PySem.W.mg_none_of X G z2, PySem.W.mg_none_of X G z3, PySem.W.mg_none_of X G z4, PySem.W.mg_none_of X G z5, PySem.W.mg_none_of X G z6, PySem.W.mg_none_of X G z7, PySem.W.mg_none_of X G z8, glv_mk X G cn0 kv_str, glv_mk X G cn1 kv_str, glv_mk X G cn2 (kv_tup w3 (.cons kv_str (.cons kv_str (.cons kv_str (.cons kv_str (.cons kv_str (.cons kv_str (.cons kv_str (.cons kv_str (.cons kv_str (.cons kv_str .nil)))))))))) (by decide)), glv_mk X G cn3 kv_str, glv_mk X G cn4 kv_int, glv_mk X G cn5 kv_int, cf_mk X G rfl hD3 ca3 cl3 nf3__data, cf_mk X G rfl hD3 ca3 cl3 nf3__kind, cf_mk X G rfl hD3 ca3 cl3 nf3__parts, cf_mk X G rfl hD5 ca5 cl5 nf5__checks, cf_mk X G rfl hD5 ca5 cl5 nf5__columns, cf_mk X G rfl hD5 ca5 cl5 nf5__unique, ic3, ct_BadShape, xw_at, xw_why, xv_BadRow, xv_RowsError, uqT⟩
  have D__law_begin : DefAt K mg "_law_begin" Gk.s__law_begin ["_law_script"] := defAt_mk X G a0 l0 c0 k0 fun _ _ _ _ _ _ us hl => match us, hl with | [_], _ => rfl
  have D__law_take : DefAt K mg "_law_take" Gk.s__law_take ["_law_draw", "_law_many"] := defAt_mk X G a1 l1 c1 k1 fun _ _ _ _ _ _ us hl => match us, hl with | [_, _], _ => rfl
  have D__law_name : DefAt K mg "_law_name" Gk.s__law_name ["_law_draw", "_law_taken"] := defAt_mk X G a2 l2 c2 k2 fun _ _ _ _ _ _ us hl => match us, hl with | [_, _], _ => rfl
  have D__law_is_column : DefAt K mg "_law_is_column" Gk.s__law_is_column ["_law_thing", "_law_names"] := defAt_mk X G a3 l3 c3 k3 fun _ _ _ _ _ _ us hl => match us, hl with | [_, _], _ => rfl
  have D__law_spoiled : DefAt K mg "_law_spoiled" Gk.s__law_spoiled ["_law_draw", "_law_column", "_law_names"] := defAt_mk X G a4 l4 c4 k4 fun _ _ _ _ _ _ us hl => match us, hl with | [_, _, _], _ => rfl
  have D__law_due : DefAt K mg "_law_due" Gk.s__law_due ["_law_columns"] := defAt_mk X G a5 l5 c5 k5 fun _ _ _ _ _ _ us hl => match us, hl with | [_], _ => rfl
  have D_is_sequence : DefAt K mg "is_sequence" Gk.s_is_sequence ["thing"] := defAt_mk X G a6 l6 c6 k6 fun _ _ _ _ _ _ us hl => match us, hl with | [_], _ => rfl
  have D_BadShape____init__ : DefXc K mg (Gk.DW K mg) 21 "BadShape" "BadShape.__init__" Gk.s_BadShape____init__ ["self", "why", "at"] ["why", "at"] := defXc_mk X G hX21 ca21 XC21 (by intro y hy; simp only [List.mem_cons, List.not_mem_nil, or_false] at hy; rcases hy with rfl | rfl <;> assumption) a7 e7 l7 c7 k7 (fun _ _ _ _ _ _ us hl => match us, hl with | [_, _, _], _ => rfl)
  have D_is_name : DefAt K mg "is_name" Gk.s_is_name ["thing"] := defAt_mk X G a8 l8 c8 k8 fun _ _ _ _ _ _ us hl => match us, hl with | [_], _ => rfl
  have D_is_flag : DefAt K mg "is_flag" Gk.s_is_flag ["thing"] := defAt_mk X G a9 l9 c9 k9 fun _ _ _ _ _ _ us hl => match us, hl with | [_], _ => rfl
  have D_is_column : DefAt K mg "is_column" Gk.s_is_column ["thing"] := defAt_mk X G a10 l10 c10 k10 fun _ _ _ _ _ _ us hl => match us, hl with | [_], _ => rfl
  have D_read_columns : DefAt K mg "read_columns" Gk.s_read_columns ["columns"] := defAt_mk X G a11 l11 c11 k11 fun _ _ _ _ _ _ us hl => match us, hl with | [_], _ => rfl
  have D_Shape__names : DefMt K (Gk.DW K mg) 5 "names" "Shape.names" Gk.s_Shape__names ["self"] := defMt_mk X G hD5 ca5 cl5 a12 l12 c12 e12 k12 (fun _ _ _ _ _ _ us hl => match us, hl with | [_], _ => rfl)
  have D_Test__atoms : DefMt K (Gk.DW K mg) 3 "atoms" "Test.atoms" Gk.s_Test__atoms ["self"] := defMt_mk X G hD3 ca3 cl3 a13 l13 c13 e13 k13 (fun _ _ _ _ _ _ us hl => match us, hl with | [_], _ => rfl)
  have D_Test__data : DefMt K (Gk.DW K mg) 3 "data" "Test.data" Gk.s_Test__data ["self"] := defMt_mk X G hD3 ca3 cl3 a14 l14 c14 e14 k14 (fun _ _ _ _ _ _ us hl => match us, hl with | [_], _ => rfl)
  have D_Test__kind : DefMt K (Gk.DW K mg) 3 "kind" "Test.kind" Gk.s_Test__kind ["self"] := defMt_mk X G hD3 ca3 cl3 a15 l15 c15 e15 k15 (fun _ _ _ _ _ _ us hl => match us, hl with | [_], _ => rfl)
  have D_columns_of : DefAt K mg "columns_of" Gk.s_columns_of ["atom"] := defAt_mk X G a16 l16 c16 k16 fun _ _ _ _ _ _ us hl => match us, hl with | [_], _ => rfl
  have D_sorted_plain : DefAt K mg "sorted_plain" Gk.s_sorted_plain ["items"] := defAt_mk X G a17 l17 c17 k17 fun _ _ _ _ _ _ us hl => match us, hl with | [_], _ => rfl
  have D_Test__names : DefMt K (Gk.DW K mg) 3 "names" "Test.names" Gk.s_Test__names ["self"] := defMt_mk X G hD3 ca3 cl3 a18 l18 c18 e18 k18 (fun _ _ _ _ _ _ us hl => match us, hl with | [_], _ => rfl)
  have D_is_integer : DefAt K mg "is_integer" Gk.s_is_integer ["thing"] := defAt_mk X G a19 l19 c19 k19 fun _ _ _ _ _ _ us hl => match us, hl with | [_], _ => rfl
  have D_is_text : DefAt K mg "is_text" Gk.s_is_text ["thing"] := defAt_mk X G a20 l20 c20 k20 fun _ _ _ _ _ _ us hl => match us, hl with | [_], _ => rfl
  have D_kind_of : DefAt K mg "kind_of" Gk.s_kind_of ["value"] := defAt_mk X G a21 l21 c21 k21 fun _ _ _ _ _ _ us hl => match us, hl with | [_], _ => rfl
  have D_is_value : DefAt K mg "is_value" Gk.s_is_value ["kind", "thing"] := defAt_mk X G a22 l22 c22 k22 fun _ _ _ _ _ _ us hl => match us, hl with | [_, _], _ => rfl
  have D_atom_fits : DefAt K mg "atom_fits" Gk.s_atom_fits ["kinds", "kind", "data"] := defAt_mk X G a23 l23 c23 k23 fun _ _ _ _ _ _ us hl => match us, hl with | [_, _, _], _ => rfl
  have D_fits_columns : DefAt K mg "fits_columns" Gk.s_fits_columns ["columns", "test"] := defAt_mk X G a24 l24 c24 k24 fun _ _ _ _ _ _ us hl => match us, hl with | [_, _], _ => rfl
  have D_read_checks : DefAt K mg "read_checks" Gk.s_read_checks ["columns", "checks"] := defAt_mk X G a25 l25 c25 k25 fun _ _ _ _ _ _ us hl => match us, hl with | [_, _], _ => rfl
  have D_once : DefAt K mg "once" Gk.s_once ["items"] := defAt_mk X G a26 l26 c26 k26 fun _ _ _ _ _ _ us hl => match us, hl with | [_], _ => rfl
  have D_is_key : DefAt K mg "is_key" Gk.s_is_key ["columns", "thing"] := defAt_mk X G a27 l27 c27 k27 fun _ _ _ _ _ _ us hl => match us, hl with | [_, _], _ => rfl
  have D_read_keys : DefAt K mg "read_keys" Gk.s_read_keys ["columns", "keys"] := defAt_mk X G a28 l28 c28 k28 fun _ _ _ _ _ _ us hl => match us, hl with | [_, _], _ => rfl
  have SH_Shape____init__ : ∀ sh ∈ ([⟨1, [], [.at 0, .df 0 (.tup []), .df 1 (.tup [])]⟩] : List Sh), KwBm K (Gk.DW K mg) (PySem.W.fnOf "__init__" "Shape.__init__" (defArgs Gk.s_Shape____init__) (defBody Gk.s_Shape____init__) (defScope Gk.s_Shape____init__) .none (.ref Dk29) dc29 pm29 an29 cd29 ct29) ["self", "columns", "checks", "keys"] sh.n sh.ks sh.arr := by
    intro sh hsh
    simp only [List.mem_cons, List.not_mem_nil, or_false] at hsh
    rcases hsh with rfl
    obtain ⟨y0, r0, s0⟩ : KV1 (Gk.DW K mg) (.ref ta3001) (.tup []) := (kv_tup w3001 .nil (by decide))
    obtain ⟨y1, r1, s1⟩ : KV1 (Gk.DW K mg) (.ref ta3002) (.tup []) := (kv_tup w3002 .nil (by decide))
    have hd : ∀ j x, Src.df j x ∈ [.at 0, .df 0 (.tup []), .df 1 (.tup [])] → RelV ((fun j => if j = 0 then y0 else if j = 1 then y1 else .non) j) ((fun j => if j = 0 then (.ref ta3001) else if j = 1 then (.ref ta3002) else .none) j) ∧ ∀ G, Rep (Gk.DW K mg) G x ((fun j => if j = 0 then y0 else if j = 1 then y1 else .non) j) := by
      intro j x hx
      simp only [List.mem_cons, List.not_mem_nil, or_false, reduceCtorEq, false_or, Src.df.injEq] at hx
      rcases hx with ⟨rfl, rfl⟩ | ⟨rfl, rfl⟩ <;> simp <;> (refine ⟨?_, ?_⟩ <;> assumption)
    refine kwBm_mk (Dk := Dk29) ["checks", "keys"] (fun j => if j = 0 then (.ref ta3001) else if j = 1 then (.ref ta3002) else .none) (fun j => if j = 0 then y0 else if j = 1 then y1 else .non) hd [(.ref ta3001), (.ref ta3002)] ?_ ?_
    · intro q hq
      simp only [List.zip_cons_cons, List.zip_nil_right, List.mem_cons, List.not_mem_nil, or_false] at hq
      rcases hq with rfl | rfl <;> assumption
    · exact fun o us ws h1 h2 => match us, h1, ws, h2 with
      | [u0], _, [], _ => ⟨_, _, _, _, _, _, rfl, rfl, ⟨_, _, _, _, _, _, rfl, rfl, rfl⟩⟩
  have D_Shape____init__ : DefMkK K mg (Gk.DW K mg) 5 "Shape" "Shape.__init__" Gk.s_Shape____init__ ["self", "columns", "checks", "keys"] [⟨1, [], [.at 0, .df 0 (.tup []), .df 1 (.tup [])]⟩] := defMkK_mk X G hE5 ca5 mk5 a29 kp5 l29 c29 e29 k29 SH_Shape____init__
  have D__law_shape_or_error : DefAt K mg "_law_shape_or_error" Gk.s__law_shape_or_error ["_law_columns"] := defAt_mk X G a30 l30 c30 k30 fun _ _ _ _ _ _ us hl => match us, hl with | [_], _ => rfl
  have D__law_is_integer : DefAt K mg "_law_is_integer" Gk.s__law_is_integer ["_law_thing"] := defAt_mk X G a31 l31 c31 k31 fun _ _ _ _ _ _ us hl => match us, hl with | [_], _ => rfl
  have D_Shape__columns : DefMt K (Gk.DW K mg) 5 "columns" "Shape.columns" Gk.s_Shape__columns ["self"] := defMt_mk X G hD5 ca5 cl5 a32 l32 c32 e32 k32 (fun _ _ _ _ _ _ us hl => match us, hl with | [_], _ => rfl)
  have D_BadRow____init__ : DefXc K mg (Gk.DW K mg) 22 "BadRow" "BadRow.__init__" Gk.s_BadRow____init__ ["self", "column"] ["column"] := defXc_mk X G hX22 ca22 XC22 (by intro y hy; simp only [List.mem_cons, List.not_mem_nil, or_false] at hy; rcases hy with rfl <;> assumption) a33 e33 l33 c33 k33 (fun _ _ _ _ _ _ us hl => match us, hl with | [_, _], _ => rfl)
  have D_find_column : DefAt K mg "find_column" Gk.s_find_column ["columns", "name"] := defAt_mk X G a34 l34 c34 k34 fun _ _ _ _ _ _ us hl => match us, hl with | [_, _], _ => rfl
  have D_Shape__kind : DefMt K (Gk.DW K mg) 5 "kind" "Shape.kind" Gk.s_Shape__kind ["self", "name"] := defMt_mk X G hD5 ca5 cl5 a35 l35 c35 e35 k35 (fun _ _ _ _ _ _ us hl => match us, hl with | [_, _], _ => rfl)
  have D__law_flag : DefAt K mg "_law_flag" Gk.s__law_flag ["_law_thing", "_law_due_here"] := defAt_mk X G a36 l36 c36 k36 fun _ _ _ _ _ _ us hl => match us, hl with | [_, _], _ => rfl
  have D_Shape__filled : DefMt K (Gk.DW K mg) 5 "filled" "Shape.filled" Gk.s_Shape__filled ["self", "name"] := defMt_mk X G hD5 ca5 cl5 a37 l37 c37 e37 k37 (fun _ _ _ _ _ _ us hl => match us, hl with | [_, _], _ => rfl)
  have D_law : DefAt K mg "law" Gk.s_law ["_law_script"] := defAt_mk X G a38 l38 c38 k38 fun _ _ _ _ _ _ us hl => match us, hl with | [_], _ => rfl
  refine law_fn2 (D := Gk.DW K mg) rfl X G hfa a38 l38 c38 k38 (fun s v => .of_eq rfl) fun base => ?_
  have C__law_begin : FnAt P w K mg base (Gk.DW K mg) 1 "_law_begin" ["_law_script"] Gk.m__law_begin := Gk.ok__law_begin B D__law_begin
  have C__law_take : FnAt P w K mg base (Gk.DW K mg) 1 "_law_take" ["_law_draw", "_law_many"] Gk.m__law_take := Gk.ok__law_take B D__law_take
  have C__law_name : FnAt P w K mg base (Gk.DW K mg) 2 "_law_name" ["_law_draw", "_law_taken"] Gk.m__law_name := Gk.ok__law_name B C__law_take D__law_name
  have C__law_is_column : FnAt P w K mg base (Gk.DW K mg) 1 "_law_is_column" ["_law_thing", "_law_names"] Gk.m__law_is_column := Gk.ok__law_is_column B D__law_is_column
  have C__law_spoiled : FnAt P w K mg base (Gk.DW K mg) 2 "_law_spoiled" ["_law_draw", "_law_column", "_law_names"] Gk.m__law_spoiled := Gk.ok__law_spoiled B C__law_take D__law_spoiled
  have C__law_due : FnAt P w K mg base (Gk.DW K mg) 2 "_law_due" ["_law_columns"] Gk.m__law_due := Gk.ok__law_due B C__law_is_column D__law_due
  have C_is_sequence : FnAt P w K mg base (Gk.DW K mg) 1 "is_sequence" ["thing"] Gk.m_is_sequence := Gk.ok_is_sequence B D_is_sequence
  have C_BadShape____init__ : XcAt P w K mg base (Gk.DW K mg) 1 21 "BadShape" ["why", "at"] := Gk.ok_BadShape____init__ B D_BadShape____init__
  have C_is_name : FnAt P w K mg base (Gk.DW K mg) 1 "is_name" ["thing"] Gk.m_is_name := Gk.ok_is_name B D_is_name
  have C_is_flag : FnAt P w K mg base (Gk.DW K mg) 1 "is_flag" ["thing"] Gk.m_is_flag := Gk.ok_is_flag B D_is_flag
  have C_is_column : FnAt P w K mg base (Gk.DW K mg) 2 "is_column" ["thing"] Gk.m_is_column := Gk.ok_is_column B C_is_sequence C_is_name C_is_flag D_is_column
  have C_read_columns : FnAt P w K mg base (Gk.DW K mg) 4 "read_columns" ["columns"] Gk.m_read_columns := Gk.ok_read_columns B C_is_sequence C_BadShape____init__ C_is_column D_read_columns
  have C_Shape__names : MtAt P w K mg base (Gk.DW K mg) 1 "names" 5 Gk.m_Shape__names := Gk.ok_Shape__names B D_Shape__names
  have C_Test__atoms : MtAt P w K mg base (Gk.DW K mg) 40 "atoms" 3 (Gk.m_Test__atoms 40) := Gk.ok_Test__atoms B D_Test__atoms
  have C_Test__data : MtAt P w K mg base (Gk.DW K mg) 1 "data" 3 Gk.m_Test__data := Gk.ok_Test__data B D_Test__data
  have C_Test__kind : MtAt P w K mg base (Gk.DW K mg) 1 "kind" 3 Gk.m_Test__kind := Gk.ok_Test__kind B D_Test__kind
  have C_columns_of : FnAt P w K mg base (Gk.DW K mg) 2 "columns_of" ["atom"] Gk.m_columns_of := Gk.ok_columns_of B C_Test__data C_Test__kind D_columns_of
  have C_sorted_plain : FnAt P w K mg base (Gk.DW K mg) 1 "sorted_plain" ["items"] Gk.m_sorted_plain := Gk.ok_sorted_plain B D_sorted_plain
  have C_Test__names : MtAt P w K mg base (Gk.DW K mg) 41 "names" 3 Gk.m_Test__names := Gk.ok_Test__names B C_Test__atoms C_columns_of C_sorted_plain D_Test__names
  have C_is_integer : FnAt P w K mg base (Gk.DW K mg) 1 "is_integer" ["thing"] Gk.m_is_integer := Gk.ok_is_integer B D_is_integer
  have C_is_text : FnAt P w K mg base (Gk.DW K mg) 1 "is_text" ["thing"] Gk.m_is_text := Gk.ok_is_text B D_is_text
  have C_kind_of : FnAt P w K mg base (Gk.DW K mg) 2 "kind_of" ["value"] Gk.m_kind_of := Gk.ok_kind_of B C_is_integer C_is_text D_kind_of
  have C_is_value : FnAt P w K mg base (Gk.DW K mg) 3 "is_value" ["kind", "thing"] Gk.m_is_value := Gk.ok_is_value B C_kind_of D_is_value
  have C_atom_fits : FnAt P w K mg base (Gk.DW K mg) 4 "atom_fits" ["kinds", "kind", "data"] Gk.m_atom_fits := Gk.ok_atom_fits B C_is_value D_atom_fits
  have C_fits_columns : FnAt P w K mg base (Gk.DW K mg) 42 "fits_columns" ["columns", "test"] Gk.m_fits_columns := Gk.ok_fits_columns B C_Shape__names C_Test__names C_Test__atoms C_atom_fits C_Test__data C_Test__kind D_fits_columns
  have C_read_checks : FnAt P w K mg base (Gk.DW K mg) 44 "read_checks" ["columns", "checks"] Gk.m_read_checks := Gk.ok_read_checks B C_is_sequence C_BadShape____init__ C_fits_columns D_read_checks
  have C_once : FnAt P w K mg base (Gk.DW K mg) 1 "once" ["items"] Gk.m_once := Gk.ok_once B D_once
  have C_is_key : FnAt P w K mg base (Gk.DW K mg) 43 "is_key" ["columns", "thing"] Gk.m_is_key := Gk.ok_is_key B C_is_sequence C_once C_fits_columns D_is_key
  have C_read_keys : FnAt P w K mg base (Gk.DW K mg) 45 "read_keys" ["columns", "keys"] Gk.m_read_keys := Gk.ok_read_keys B C_is_sequence C_BadShape____init__ C_is_key D_read_keys
  have C_Shape____init__ : MkAtK P w K mg base (Gk.DW K mg) 46 5 "Shape" [⟨1, [], [.at 0, .df 0 (.tup []), .df 1 (.tup [])]⟩] Gk.m_Shape____init__ := Gk.ok_Shape____init__ B C_read_columns C_read_checks C_read_keys D_Shape____init__
  have C__law_shape_or_error : FnAt P w K mg base (Gk.DW K mg) 48 "_law_shape_or_error" ["_law_columns"] Gk.m__law_shape_or_error := Gk.ok__law_shape_or_error B C_Shape____init__ D__law_shape_or_error
  have C__law_is_integer : FnAt P w K mg base (Gk.DW K mg) 1 "_law_is_integer" ["_law_thing"] Gk.m__law_is_integer := Gk.ok__law_is_integer B D__law_is_integer
  have C_Shape__columns : MtAt P w K mg base (Gk.DW K mg) 1 "columns" 5 Gk.m_Shape__columns := Gk.ok_Shape__columns B D_Shape__columns
  have C_BadRow____init__ : XcAt P w K mg base (Gk.DW K mg) 1 22 "BadRow" ["column"] := Gk.ok_BadRow____init__ B D_BadRow____init__
  have C_find_column : FnAt P w K mg base (Gk.DW K mg) 3 "find_column" ["columns", "name"] Gk.m_find_column := Gk.ok_find_column B C_BadRow____init__ D_find_column
  have C_Shape__kind : MtAt P w K mg base (Gk.DW K mg) 4 "kind" 5 Gk.m_Shape__kind := Gk.ok_Shape__kind B C_find_column D_Shape__kind
  have C__law_flag : FnAt P w K mg base (Gk.DW K mg) 1 "_law_flag" ["_law_thing", "_law_due_here"] Gk.m__law_flag := Gk.ok__law_flag B D__law_flag
  have C_Shape__filled : MtAt P w K mg base (Gk.DW K mg) 4 "filled" 5 Gk.m_Shape__filled := Gk.ok_Shape__filled B C_find_column D_Shape__filled
  have C_law : FnAt P w K mg base (Gk.DW K mg) 50 "law" ["_law_script"] Gk.m_law := Gk.ok_law B C__law_begin C__law_take C__law_name C__law_is_column C__law_spoiled C__law_due C__law_shape_or_error C__law_is_integer C_Shape__columns C_Shape__names C_Test__names C_Shape__kind C__law_flag C_Shape__filled D_law
  exact C_law
end
open PySem PySem.W PyProof.Rows
set_option maxRecDepth 100000 in
set_option maxHeartbeats 0 in
theorem PySem.Challenge.cw_tworows_k12_columns_refused_holds : PySem.Challenge.rw_tworows_k12_columns_refused.Holds := by
  w_on; o_law; k_head; (case hw => w_witness2)
  k_fill
  refine L2.walk_ofB (l := PySem.Challenge.rw_tworows_k12_columns_refused) (n := 63) (k := 50) (x := "_law_script") (CX := fun w => L2.CX PySem.Challenge.rw_tworows_k12_columns_refused.prog w) (sp := fun w => TR.SpL _ Gk.m_law) rfl (by decide) rfl ⟨rfl, by decide, by decide⟩ (fun w h Y => PySem.W.kIn_of Y) ?F (fun w H a ns hl hb hO hS => ⟨a, ns, rfl, hS, Gk.law_true ns hl hb, fun _ => rfl⟩) (fun w H s e s2 z => TR.cx_no z)
  case F =>
    intro w mg fa h KX G hmg
    refine' Gk.all_mk KX G hmg ?ca3 ?pg3 ?hd3 ?po3 ?sa3 ?ha3 ?hm3 ?kt3_bool ?kt3_int ?kt3_str ?kt3_list ?kt3_tuple ?kt3_dict ?ca5 ?pg5 ?hd5 ?po5 ?sa5 ?ha5 ?hm5 ?kt5_bool ?kt5_int ?kt5_str ?kt5_list ?kt5_tuple ?kt5_dict ?hn0 ?ht0 ?nf3__data ?nf3__kind ?nf3__parts ?nf5__checks ?nf5__columns ?nf5__unique ?ca21 ?xa21 ?xb21 ?xc21 ?xd21 ?xe21 ?xf21 ?xg21 ?yc21 ?ym21 ?xi21 ?xj21 ?xn21_at ?xn21_why ?ca22 ?xa22 ?xb22 ?xc22 ?xd22 ?xe22 ?xf22 ?xg22 ?yc22 ?ym22 ?xi22 ?xj22 ?xn22_at ?xn22_column ?xn22_why ?xo21 ?xp21 ?xq21 ?xm21_21 ?xm21_22 ?ke22_21 ?ke22_22 ?ca20 ?ke20_21 ?ke20_22 ?kb3_NoneType ?kb3_bool ?kb3_int ?kb3_str ?kb3_list ?kb3_tuple ?kb3_dict ?kc3_3 ?kc3_5 ?a0 ?l0 ?c0 ?k0 ?a1 ?l1 ?c1 ?k1 ?a2 ?l2 ?c2 ?k2 ?a3 ?l3 ?c3 ?k3 ?a4 ?l4 ?c4 ?k4 ?a5 ?l5 ?c5 ?k5 ?a6 ?l6 ?c6 ?k6 ?a7 ?l7 ?c7 ?k7 ?e7 ?a8 ?l8 ?c8 ?k8 ?a9 ?l9 ?c9 ?k9 ?a10 ?l10 ?c10 ?k10 ?a11 ?l11 ?c11 ?k11 ?a12 ?l12 ?c12 ?k12 ?e12 ?a13 ?l13 ?c13 ?k13 ?e13 ?a14 ?l14 ?c14 ?k14 ?e14 ?a15 ?l15 ?c15 ?k15 ?e15 ?a16 ?l16 ?c16 ?k16 ?a17 ?l17 ?c17 ?k17 ?a18 ?l18 ?c18 ?k18 ?e18 ?a19 ?l19 ?c19 ?k19 ?a20 ?l20 ?c20 ?k20 ?a21 ?l21 ?c21 ?k21 ?a22 ?l22 ?c22 ?k22 ?a23 ?l23 ?c23 ?k23 ?a24 ?l24 ?c24 ?k24 ?a25 ?l25 ?c25 ?k25 ?a26 ?l26 ?c26 ?k26 ?a27 ?l27 ?c27 ?k27 ?a28 ?l28 ?c28 ?k28 ?a29 ?l29 ?c29 ?k29 ?e29 ?mk5 ?kp5 ?a30 ?l30 ?c30 ?k30 ?a31 ?l31 ?c31 ?k31 ?a32 ?l32 ?c32 ?k32 ?e32 ?a33 ?l33 ?c33 ?k33 ?e33 ?a34 ?l34 ?c34 ?k34 ?a35 ?l35 ?c35 ?k35 ?e35 ?a36 ?l36 ?c36 ?k36 ?a37 ?l37 ?c37 ?k37 ?e37 ?a38 ?l38 ?c38 ?k38 ?ue3_5 ?w3001 ?kd29_0 ?w3002 ?kd29_1 ?z0 ?z1 ?z2 ?z3 ?z4 ?z5 ?z6 ?z7 ?z8 ?cn0 ?cn1 ?w3 ?cn2 ?cn3 ?cn4 ?cn5
    (case ca3 => k_is); (case ca5 => k_is); (case ca21 => k_is); (case ca22 => k_is); (case ca20 => k_is); (case pg3 => k_is); (case hd3 => k_is); (case po3 => k_is); (case sa3 => k_is); (case ha3 => k_is); (case hm3 => k_is); (case kt3_bool => kit_is); (case kt3_int => kit_is); (case kt3_str => kit_is); (case kt3_list => kit_is); (case kt3_tuple => kit_is); (case kt3_dict => kit_is); (case pg5 => k_is); (case hd5 => k_is); (case po5 => k_is); (case sa5 => k_is); (case ha5 => k_is); (case hm5 => k_is); (case kt5_bool => kit_is); (case kt5_int => kit_is); (case kt5_str => kit_is); (case kt5_list => kit_is); (case kt5_tuple => kit_is); (case kt5_dict => kit_is); (case hn0 => k_is); (case ht0 => k_is); (case nf3__data => k_is); (case nf3__kind => k_is); (case nf3__parts => k_is); (case nf5__checks => k_is); (case nf5__columns => k_is); (case nf5__unique => k_is); (case xa21 => (first | k_is | kx_is)); (case xb21 => (first | k_is | kx_is)); (case xc21 => k_is); (case xd21 => k_is); (case xe21 => k_is); (case xf21 => k_is); (case xg21 => k_is); (case yc21 => k_is); (case ym21 => k_is); (case xi21 => k_is); (case xj21 => k_is); (case xn21_at => k_is); (case xn21_why => k_is); (case xa22 => (first | k_is | kx_is)); (case xb22 => (first | k_is | kx_is)); (case xc22 => k_is); (case xd22 => k_is); (case xe22 => k_is); (case xf22 => k_is); (case xg22 => k_is); (case yc22 => k_is); (case ym22 => k_is); (case xi22 => k_is); (case xj22 => k_is); (case xn22_at => k_is); (case xn22_column => k_is); (case xn22_why => k_is); (case xo21 => k_is); (case xp21 => k_is); (case xq21 => k_is); (case xm21_21 => k_is); (case xm21_22 => k_is); (case ke22_21 => kit_is); (case ke22_22 => kit_is); (case ke20_21 => kit_is); (case ke20_22 => kit_is); (case kb3_NoneType => kit_is); (case kb3_bool => kit_is); (case kb3_int => kit_is); (case kb3_str => kit_is); (case kb3_list => kit_is); (case kb3_tuple => kit_is); (case kb3_dict => kit_is); (case kc3_3 => kit_is); (case kc3_5 => kit_is); (case a0 => k_is); (case l0 => k_is); (case c0 => k_is); (case k0 => k_is); (case a1 => k_is); (case l1 => k_is); (case c1 => k_is); (case k1 => k_is); (case a2 => k_is); (case l2 => k_is); (case c2 => k_is); (case k2 => k_is); (case a3 => k_is); (case l3 => k_is); (case c3 => k_is); (case k3 => k_is); (case a4 => k_is); (case l4 => k_is); (case c4 => k_is); (case k4 => k_is); (case a5 => k_is); (case l5 => k_is); (case c5 => k_is); (case k5 => k_is); (case a6 => k_is); (case l6 => k_is); (case c6 => k_is); (case k6 => k_is); (case a7 => k_is); (case l7 => k_is); (case c7 => k_is); (case k7 => k_is); (case e7 => k_is); (case a8 => k_is); (case l8 => k_is); (case c8 => k_is); (case k8 => k_is); (case a9 => k_is); (case l9 => k_is); (case c9 => k_is); (case k9 => k_is); (case a10 => k_is); (case l10 => k_is); (case c10 => k_is); (case k10 => k_is); (case a11 => k_is); (case l11 => k_is); (case c11 => k_is); (case k11 => k_is); (case a12 => k_is); (case l12 => k_is); (case c12 => k_is); (case k12 => k_is); (case e12 => k_is); (case a13 => k_is); (case l13 => k_is); (case c13 => k_is); (case k13 => k_is); (case e13 => k_is); (case a14 => k_is); (case l14 => k_is); (case c14 => k_is); (case k14 => k_is); (case e14 => k_is); (case a15 => k_is); (case l15 => k_is); (case c15 => k_is); (case k15 => k_is); (case e15 => k_is); (case a16 => k_is); (case l16 => k_is); (case c16 => k_is); (case k16 => k_is); (case a17 => k_is); (case l17 => k_is); (case c17 => k_is); (case k17 => k_is); (case a18 => k_is); (case l18 => k_is); (case c18 => k_is); (case k18 => k_is); (case e18 => k_is); (case a19 => k_is); (case l19 => k_is); (case c19 => k_is); (case k19 => k_is); (case a20 => k_is); (case l20 => k_is); (case c20 => k_is); (case k20 => k_is); (case a21 => k_is); (case l21 => k_is); (case c21 => k_is); (case k21 => k_is); (case a22 => k_is); (case l22 => k_is); (case c22 => k_is); (case k22 => k_is); (case a23 => k_is); (case l23 => k_is); (case c23 => k_is); (case k23 => k_is); (case a24 => k_is); (case l24 => k_is); (case c24 => k_is); (case k24 => k_is); (case a25 => k_is); (case l25 => k_is); (case c25 => k_is); (case k25 => k_is); (case a26 => k_is); (case l26 => k_is); (case c26 => k_is); (case k26 => k_is); (case a27 => k_is); (case l27 => k_is); (case c27 => k_is); (case k27 => k_is); (case a28 => k_is); (case l28 => k_is); (case c28 => k_is); (case k28 => k_is); (case a29 => k_is); (case l29 => k_is); (case c29 => k_is); (case k29 => k_is); (case e29 => k_is); (case mk5 => k_is); (case kp5 => k_is); (case a30 => k_is); (case l30 => k_is); (case c30 => k_is); (case k30 => k_is); (case a31 => k_is); (case l31 => k_is); (case c31 => k_is); (case k31 => k_is); (case a32 => k_is); (case l32 => k_is); (case c32 => k_is); (case k32 => k_is); (case e32 => k_is); (case a33 => k_is); (case l33 => k_is); (case c33 => k_is); (case k33 => k_is); (case e33 => k_is); (case a34 => k_is); (case l34 => k_is); (case c34 => k_is); (case k34 => k_is); (case a35 => k_is); (case l35 => k_is); (case c35 => k_is); (case k35 => k_is); (case e35 => k_is); (case a36 => k_is); (case l36 => k_is); (case c36 => k_is); (case k36 => k_is); (case a37 => k_is); (case l37 => k_is); (case c37 => k_is); (case k37 => k_is); (case e37 => k_is); (case a38 => k_is); (case l38 => k_is); (case c38 => k_is); (case k38 => k_is); (case ue3_5 => decide); (case z0 => k_is); (case z1 => k_is); (case z2 => k_is); (case z3 => k_is); (case z4 => k_is); (case z5 => k_is); (case z6 => k_is); (case z7 => k_is); (case z8 => k_is); (case kd29_0 => k_is); (case w3001 => k_is); (case kd29_1 => k_is); (case w3002 => k_is); (case cn0 => k_is); (case cn1 => k_is); (case cn2 => k_is); (case w3 => k_is); (case cn3 => k_is); (case cn4 => k_is); (case cn5 => k_is)
