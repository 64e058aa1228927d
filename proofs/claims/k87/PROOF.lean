import PyProof.Rows.All
import Wide.All
import OpenK.AllK
import Wide.FinOn
import HandS.ForSpec
import HandS.Comp
import HandS.Wide
import HandS.IsInst
import HandS.Deep
import HandS.Style
import HandS.Iter
import HandS.Zip
import HandS.Defaults
import HandS.Text
import HandS.RaiseMore
import HandS.ExcOwn
import HandS.TryMany
import HandS.WideBits
import HandS.EndBits
import HandS.Words
import PySem.Challenge.RW_heightsums_k87_conjugators_found
set_option Elab.async false
set_option linter.all false
set_option maxRecDepth 100000
set_option maxHeartbeats 1000000
/-! Plain data over the hand layer: what a value is worth as data, who owns which list, and what a piece of code does to both. -/
namespace DL
open PySem PySem.Spec PyProof.Rows L2

inductive D where
  | non | bl (b : Bool) | int (i : Int) | str (x : Str) | ty (n : String) | ref (a : Addr)
  | tup (xs : List D) | ro (xs : List D) | lst (o : Bool) (xs : List D) | ob (o : Bool) (c : Addr) (fs : List (Str × D)) | dct (o : Bool) (kvs : List (D × D))
  deriving Inhabited

abbrev Env := List (Option D)
structure Exn where
  cls : String
  fs : List (Str × D)

inductive Out (α : Type) where
  | ok (a : α) (ρ : Env) (q : Bool)
  | ex (c : Exn) (ρ : Env)
  | no
inductive SOut where
  | nx (ρ : Env) | rt (d : D) (ρ : Env) | bk (ρ : Env) | ct (ρ : Env) | ex (c : Exn) (ρ : Env) | no
inductive FOut where
  | ok (d : D) (bs : List D) | ex (c : Exn) (bs : List D) | no

def Out.bind {α β : Type} (o : Out α) (f : α → Env → Out β) : Out β :=
  match o with
  | .ok a ρ q => (match f a ρ with
    | .ok b ρ' q' => .ok b ρ' (q && q')
    | .ex c ρ' => .ex c ρ'
    | .no => .no)
  | .ex c ρ => .ex c ρ
  | .no => .no

/-! ### what a value is worth -/
/-- a tuple: tracked, or one of the module's own -/
def TupAt (K : PySem.W.Frag) (G : Hp) (a : Addr) (xs : List V) : Prop := G a = some (.tup xs) ∨
  ∃ (o : Obj) (its : Array Value) (n : Nat), K.lookup a = some o ∧ o.cls = .type "tuple" ∧ o.data = .seq its n ∧ its.size ≤ sizeLine ∧ Vals xs its.toList
mutual
inductive Is (K : PySem.W.Frag) (G : Hp) : V → D → Prop
  | non : Is K G .non .non
  | bl (b : Bool) : Is K G (.bl b) (.bl b)
  | int (i : Int) : Is K G (.int i) (.int i)
  | str (x : Str) : Is K G (.str x) (.str x)
  | ty (n : String) : Is K G (.ty n) (.ty n)
  | ref (a : Addr) : Is K G (.ref a) (.ref a)
  | tup {a : Addr} {xs : List V} {ds : List D} : TupAt K G a xs → IsAll K G xs ds → Is K G (.ref a) (.tup ds)
  | ro {a : Addr} {xs : List V} {ds : List D} : SqL K G a xs → IsAll K G xs ds → Is K G (.ref a) (.ro ds)
  | lst {a : Addr} {xs : List V} {ds : List D} : Rd G a (.lst xs) → IsAll K G xs ds → Is K G (.ref a) (.lst false ds)
  | ob {a C dx : Addr} {fs : List (Str × V)} {ds : List (Str × D)} : G a = some (.ins C dx fs) → IsFs K G fs ds → Is K G (.ref a) (.ob false C ds)
inductive IsAll (K : PySem.W.Frag) (G : Hp) : List V → List D → Prop
  | nil : IsAll K G [] []
  | cons {v : V} {vs : List V} {d : D} {ds : List D} : Is K G v d → IsAll K G vs ds → IsAll K G (v :: vs) (d :: ds)
inductive IsFs (K : PySem.W.Frag) (G : Hp) : List (Str × V) → List (Str × D) → Prop
  | nil : IsFs K G [] []
  | cons {n : Str} {v : V} {fs : List (Str × V)} {d : D} {ds : List (Str × D)} : Is K G v d → IsFs K G fs ds → IsFs K G ((n, v) :: fs) ((n, d) :: ds)
end

theorem same_rd {H H' : Hp} {a : Addr} {u : HO} (e : Same H H') (h : Rd H a u) : Rd H' a u := by
  rcases h with h | ⟨o, h⟩
  · exact .inl (e _ _ h)
  · exact .inr ⟨o, e _ _ h⟩
theorem same_tup {K : PySem.W.Frag} {H H' : Hp} {a : Addr} {xs : List V} (e : Same H H') (h : TupAt K H a xs) : TupAt K H' a xs := by
  rcases h with h | h
  · exact .inl (e _ _ h)
  · exact .inr h
theorem sq_tup {K : PySem.W.Frag} {H H' : Hp} {a : Addr} {xs : List V} (e : Same H H') (h : TupAt K H a xs) : SqT K H' a xs := by
  rcases h with h | h
  · exact .inl (.inl (e _ _ h))
  · exact .inr h
section
variable {K : PySem.W.Frag} {G G' : Hp}
mutual
theorem Is.mono (e : Same G G') : ∀ {v : V} {d : D}, Is K G v d → Is K G' v d
  | _, _, .non => .non
  | _, _, .bl b => .bl b
  | _, _, .int i => .int i
  | _, _, .str x => .str x
  | _, _, .ty n => .ty n
  | _, _, .ref a => .ref a
  | _, _, .tup h r => .tup (same_tup e h) (IsAll.mono e r)
  | _, _, .ro h r => .ro (e.seq h) (IsAll.mono e r)
  | _, _, .lst h r => .lst (same_rd e h) (IsAll.mono e r)
  | _, _, .ob h r => .ob (e _ _ h) (IsFs.mono e r)
theorem IsAll.mono (e : Same G G') : ∀ {vs : List V} {ds : List D}, IsAll K G vs ds → IsAll K G' vs ds
  | _, _, .nil => .nil
  | _, _, .cons h r => .cons (Is.mono e h) (IsAll.mono e r)
theorem IsFs.mono (e : Same G G') : ∀ {vs : List (Str × V)} {ds : List (Str × D)}, IsFs K G vs ds → IsFs K G' vs ds
  | _, _, .nil => .nil
  | _, _, .cons h r => .cons (Is.mono e h) (IsFs.mono e r)
end
theorem IsAll.length : ∀ {vs : List V} {ds : List D}, IsAll K G vs ds → vs.length = ds.length
  | _, _, .nil => rfl
  | _, _, .cons _ r => congrArg (· + 1) r.length
theorem IsAll.get : ∀ {vs : List V} {ds : List D} {i : Nat} {v : V}, IsAll K G vs ds → vs[i]? = some v → ∃ d, ds[i]? = some d ∧ Is K G v d
  | _, _, _, _, .nil, h => by simp at h
  | _, _, 0, _, .cons h _, e => by simp at e; subst e; exact ⟨_, rfl, h⟩
  | _, _, i + 1, _, .cons _ r, e => by
    obtain ⟨d, h1, h2⟩ := IsAll.get (i := i) r (by simpa using e)
    exact ⟨d, by simpa using h1, h2⟩
theorem IsAll.get' : ∀ {vs : List V} {ds : List D} {i : Nat} {d : D}, IsAll K G vs ds → ds[i]? = some d → ∃ v, vs[i]? = some v ∧ Is K G v d
  | _, _, _, _, .nil, h => by simp at h
  | _, _, 0, _, .cons h _, e => by simp at e; subst e; exact ⟨_, rfl, h⟩
  | _, _, i + 1, _, .cons _ r, e => by
    obtain ⟨d, h1, h2⟩ := IsAll.get' (i := i) r (by simpa using e)
    exact ⟨d, by simpa using h1, h2⟩
theorem IsAll.append : ∀ {vs ws : List V} {ds es : List D}, IsAll K G vs ds → IsAll K G ws es → IsAll K G (vs ++ ws) (ds ++ es)
  | _, _, _, _, .nil, s => s
  | _, _, _, _, .cons h r, s => .cons h (r.append s)
theorem IsAll.take : ∀ {vs : List V} {ds : List D} (n : Nat), IsAll K G vs ds → IsAll K G (vs.take n) (ds.take n)
  | _, _, 0, _ => by simpa using IsAll.nil
  | _, _, _ + 1, .nil => .nil
  | _, _, n + 1, .cons h r => .cons h (r.take n)
theorem IsAll.drop : ∀ {vs : List V} {ds : List D} (n : Nat), IsAll K G vs ds → IsAll K G (vs.drop n) (ds.drop n)
  | _, _, 0, r => r
  | _, _, _ + 1, .nil => .nil
  | _, _, n + 1, .cons _ r => r.drop n
theorem IsAll.set {v : V} {d : D} (h : Is K G v d) : ∀ {vs : List V} {ds : List D} (i : Nat), IsAll K G vs ds → IsAll K G (vs.set i v) (ds.set i d)
  | _, _, _, .nil => .nil
  | _, _, 0, .cons _ r => .cons h r
  | _, _, i + 1, .cons q r => .cons q (IsAll.set h i r)
theorem IsFs.lookup : ∀ {vs : List (Str × V)} {ds : List (Str × D)} {f : Str} {d : D}, IsFs K G vs ds → ds.lookup f = some d → ∃ v, vs.lookup f = some v ∧ Is K G v d
  | _, _, _, _, .nil, h => by simp at h
  | _, _, f, _, .cons (n := n) h r, e => by
    by_cases c : f = n
    · subst c
      simp [List.lookup] at e ⊢
      subst e
      exact h
    · have c' : (f == n) = false := by simpa using c
      simp only [List.lookup, c'] at e ⊢
      exact r.lookup e
theorem IsFs.lookup_none : ∀ {vs : List (Str × V)} {ds : List (Str × D)} {f : Str}, IsFs K G vs ds → ds.lookup f = none → vs.lookup f = none
  | _, _, _, .nil, _ => by simp
  | _, _, f, .cons (n := n) h r, e => by
    by_cases c : f = n
    · subst c
      simp [List.lookup] at e
    · have c' : (f == n) = false := by simpa using c
      simp only [List.lookup, c'] at e ⊢
      exact r.lookup_none e
end

/-! ### who owns what: a label tells the slot, and the field in it -/
abbrev Lb := Addr → Option (Nat × Option Str)
inductive Own1 (K : PySem.W.Frag) (G H : Hp) (ω : Lb) (l : Nat × Option Str) : V → D → Prop
  | frz {v : V} {d : D} : Is K G v d → Own1 K G H ω l v d
  | lst {a : Addr} {xs : List V} {ds : List D} : ω a = some l → H a = some (.lst xs) → IsAll K G xs ds → Own1 K G H ω l (.ref a) (.lst true ds)
inductive OwnFs (K : PySem.W.Frag) (G H : Hp) (ω : Lb) (i : Nat) : List (Str × V) → List (Str × D) → Prop
  | nil : OwnFs K G H ω i [] []
  | cons {n : Str} {v : V} {fs : List (Str × V)} {d : D} {ds : List (Str × D)} : Own1 K G H ω (i, some n) v d → OwnFs K G H ω i fs ds → OwnFs K G H ω i ((n, v) :: fs) ((n, d) :: ds)
inductive Own (K : PySem.W.Frag) (G H : Hp) (ω : Lb) (i : Nat) : V → D → Prop
  | one {v : V} {d : D} : Own1 K G H ω (i, none) v d → Own K G H ω i v d
  | ob {a C dx : Addr} {fs : List (Str × V)} {ds : List (Str × D)} : ω a = some (i, none) → H a = some (.ins C dx fs) → OwnFs K G H ω i fs ds → Own K G H ω i (.ref a) (.ob true C ds)
section
variable {K : PySem.W.Frag} {G G' H H' : Hp} {ω ω' : Lb} {i j : Nat}
theorem Own.frz {v : V} {d : D} (h : Is K G v d) : Own K G H ω i v d := .one (.frz h)
/-- the heaps go on, the nodes of slot i stand as they did under slot j's label -/
theorem Own1.go {p : Option Str} (e : Same G G') (hω : ∀ a p, ω a = some (i, p) → ω' a = some (j, p) ∧ H' a = H a) {v : V} {d : D} (h : Own1 K G H ω (i, p) v d) : Own1 K G' H' ω' (j, p) v d := by
  cases h with
  | frz h => exact .frz (h.mono e)
  | lst h1 h2 h3 => exact .lst (hω _ _ h1).1 ((hω _ _ h1).2.trans h2) (h3.mono e)
theorem OwnFs.go (e : Same G G') (hω : ∀ a p, ω a = some (i, p) → ω' a = some (j, p) ∧ H' a = H a) : ∀ {fs : List (Str × V)} {ds : List (Str × D)}, OwnFs K G H ω i fs ds → OwnFs K G' H' ω' j fs ds
  | _, _, .nil => .nil
  | _, _, .cons h r => .cons (h.go e hω) (r.go e hω)
theorem Own.go (e : Same G G') (hω : ∀ a p, ω a = some (i, p) → ω' a = some (j, p) ∧ H' a = H a) {v : V} {d : D} (h : Own K G H ω i v d) : Own K G' H' ω' j v d := by
  cases h with
  | one h => exact .one (h.go e hω)
  | ob h1 h2 h3 => exact .ob (hω _ _ h1).1 ((hω _ _ h1).2.trans h2) (h3.go e hω)
end

/-! ### frozen data -/
def frz1 : D → D
  | .lst _ ds => .lst false ds
  | d => d
def frz : D → D
  | .lst _ ds => .lst false ds
  | .ob _ c fs => .ob false c (fs.map fun p => (p.1, frz1 p.2))
  | d => d
/-- a label's nodes become part of the frozen heap -/
def melt (ω : Lb) (i : Nat) (G H : Hp) : Hp := fun a => match ω a with
  | some (j, _) => if j = i then H a else G a
  | none => G a
def unlab (ω : Lb) (i : Nat) : Lb := fun a => match ω a with
  | some (j, p) => if j = i then none else some (j, p)
  | none => none
section
variable {K : PySem.W.Frag} {G H : Hp} {ω : Lb} {i : Nat}
theorem melt_same (h : ∀ a, ω a ≠ none → G a = none) : Same G (melt ω i G H) := fun a o e => by
  unfold melt
  cases q : ω a with
  | none => exact e
  | some l => rw [h a (by rw [q]; simp)] at e; cases e
theorem melt_le (h : Same G H) : Same (melt ω i G H) H := fun a o e => by
  unfold melt at e
  cases q : ω a with
  | none => rw [q] at e; exact h a o e
  | some l =>
    rw [q] at e
    obtain ⟨j, p⟩ := l
    by_cases c : j = i
    · simpa [c] using e
    · exact h a o (by simpa [c] using e)
theorem melt_at {a : Addr} {p : Option Str} (h : ω a = some (i, p)) : melt ω i G H a = H a := by unfold melt; rw [h]; simp
theorem melt_ne {a : Addr} (h : ∀ p, ω a ≠ some (i, p)) : melt ω i G H a = G a := by
  unfold melt
  cases q : ω a with
  | none => rfl
  | some l =>
    obtain ⟨j, p⟩ := l
    by_cases c : j = i
    · subst c; exact absurd q (h p)
    · simp [c]
theorem unlab_at {a : Addr} {p : Option Str} (h : ω a = some (i, p)) : unlab ω i a = none := by unfold unlab; rw [h]; simp
theorem unlab_some {a : Addr} {l : Nat × Option Str} (h : unlab ω i a = some l) : ω a = some l ∧ l.1 ≠ i := by
  unfold unlab at h
  cases q : ω a with
  | none => rw [q] at h; cases h
  | some m =>
    rw [q] at h
    obtain ⟨j, p⟩ := m
    by_cases c : j = i
    · simp [c] at h
    · simp [c] at h
      subst h
      exact ⟨rfl, c⟩
theorem unlab_keep {a : Addr} {j : Nat} {p : Option Str} (h : ω a = some (j, p)) (c : j ≠ i) : unlab ω i a = some (j, p) := by unfold unlab; rw [h]; simp [c]
theorem Own1.frozen {p : Option Str} (hG : ∀ a, ω a ≠ none → G a = none) {v : V} {d : D} (h : Own1 K G H ω (i, p) v d) : Is K (melt ω i G H) v (frz1 d) := by
  cases h with
  | frz h =>
    have h' := h.mono (melt_same (H := H) (i := i) hG)
    cases h' with
    | lst a b => exact .lst a b
    | non => exact .non
    | bl b => exact .bl b
    | int i => exact .int i
    | str x => exact .str x
    | ty n => exact .ty n
    | ref a => exact .ref a
    | tup a b => exact .tup a b
    | ro a b => exact .ro a b
    | ob a b => exact .ob a b
  | lst h1 h2 h3 => exact .lst (Rd.of ((melt_at h1).trans h2)) (h3.mono (melt_same hG))
theorem OwnFs.frozen (hG : ∀ a, ω a ≠ none → G a = none) : ∀ {fs : List (Str × V)} {ds : List (Str × D)}, OwnFs K G H ω i fs ds → IsFs K (melt ω i G H) fs (ds.map fun p => (p.1, frz1 p.2))
  | _, _, .nil => .nil
  | _, _, .cons h r => .cons (h.frozen hG) (r.frozen hG)
mutual
/-- frozen data that is frozen data: frz does nothing but inside -/
theorem Is.frz {G : Hp} : ∀ {v : V} {d : D}, Is K G v d → Is K G v (DL.frz d)
  | _, _, .non => .non
  | _, _, .bl b => .bl b
  | _, _, .int i => .int i
  | _, _, .str x => .str x
  | _, _, .ty n => .ty n
  | _, _, .ref a => .ref a
  | _, _, .tup h r => .tup h r
  | _, _, .ro h r => .ro h r
  | _, _, .lst h r => .lst h r
  | _, _, .ob h r => .ob h (IsFs.frz1 r)
theorem IsFs.frz1 {G : Hp} : ∀ {vs : List (Str × V)} {ds : List (Str × D)}, IsFs K G vs ds → IsFs K G vs (ds.map fun p => (p.1, DL.frz1 p.2))
  | _, _, .nil => .nil
  | _, _, .cons h r => .cons (by
      cases h with
      | lst a b => exact .lst a b
      | non => exact .non
      | bl b => exact .bl b
      | int i => exact .int i
      | str x => exact .str x
      | ty n => exact .ty n
      | ref a => exact .ref a
      | tup a b => exact .tup a b
      | ro a b => exact .ro a b
      | ob a b => exact .ob a b) (IsFs.frz1 r)
end
theorem Own.frozen (hG : ∀ a, ω a ≠ none → G a = none) {v : V} {d : D} (h : Own K G H ω i v d) : Is K (melt ω i G H) v (DL.frz d) := by
  cases h with
  | one h =>
    cases h with
    | frz h => exact (h.mono (melt_same hG)).frz
    | lst h1 h2 h3 => exact .lst (Rd.of ((melt_at h1).trans h2)) (h3.mono (melt_same hG))
  | ob h1 h2 h3 => exact .ob ((melt_at h1).trans h2) (h3.frozen hG)
end

/-! ### the state of a body: from where it began, what is frozen, what is owned, what the slots are worth -/
structure Bs where
  G : Hp
  H : Hp
  ω : Lb
  σ : L2.St
/-- an exception at a, in slot i, its dict at dd -/
structure Pin where
  i : Nat
  a : Addr
  dd : Option Addr
  fs : List (Str × V)
  ds : List (Str × D)
structure By where
  l : List Nat
  pin : List Pin
structure PinAt (K : PySem.W.Frag) (b : Bs) (B : By) (p : Pin) : Prop where
  mem : p.i ∈ B.l
  at' : b.σ[p.i]? = some (some (.ref p.a))
  fs : IsFs K b.G p.fs p.ds
  dd : (p.fs = [] ∧ p.dd = none) ∨ ∃ d, p.dd = some d ∧ b.H d = some (.xd p.fs) ∧ b.ω d = none
structure Rel (K : PySem.W.Frag) (b : Bs) (B : By) (G H : Hp) (ω : Lb) (σ : L2.St) (ρ : Env) : Prop where
  le : Same G H
  leG : Same b.G G
  old : ∀ a o, b.ω a = none → b.H a = some o → H a = some o
  dom : ∀ a, H a = none → b.H a = none
  fr : ∀ a, b.H a ≠ none → b.G a = none → G a = none
  own : ∀ a l, ω a = some l → G a = none ∧ H a ≠ none ∧ (b.H a = none ∨ ∃ p, b.ω a = some (l.1, p))
  bB : ∀ a l, b.ω a = some l → l.1 ∈ B.l
  len : σ.length = ρ.length
  slot : ∀ (i : Nat) (d : D), ρ[i]? = some (some d) → ∃ v, σ[i]? = some (some v) ∧ Own K G H ω i v d
  byr : ∀ i ∈ B.l, σ[i]? = b.σ[i]?
  pin : ∀ p ∈ B.pin, PinAt K b B p
/-- only new things, and what was hidden stays hidden -/
structure Step (G H G' H' : Hp) : Prop where
  g : Same G G'
  h : Same H H'
  hid : ∀ a, H a ≠ none → G a = none → G' a = none
theorem Step.refl (G H : Hp) : Step G H G H := ⟨Same.refl _, Same.refl _, fun _ _ h => h⟩
theorem some_of_ne {H : Hp} {a : Addr} (h : H a ≠ none) : ∃ o, H a = some o := by
  cases q : H a with
  | none => exact absurd q h
  | some o => exact ⟨o, rfl⟩
theorem Same.ne {H H' : Hp} (e : Same H H') {a : Addr} (h : H a ≠ none) : H' a ≠ none := by
  obtain ⟨o, q⟩ := some_of_ne h
  rw [e a o q]; simp
theorem Step.trans {G H G1 H1 G2 H2 : Hp} (a : Step G H G1 H1) (b : Step G1 H1 G2 H2) : Step G H G2 H2 :=
  ⟨a.g.trans b.g, a.h.trans b.h, fun x h g => b.hid x (Same.ne a.h h) (a.hid x h g)⟩
section
variable {K : PySem.W.Frag} {b : Bs} {B : By} {G H G' H' : Hp} {ω ω' : Lb} {σ σ' : L2.St} {ρ ρ' : Env}
theorem lab_of {a : Addr} (h : ω a ≠ none) : ∃ l, ω a = some l := by
  cases q : ω a with
  | none => exact absurd q h
  | some l => exact ⟨l, rfl⟩
theorem Rel.hG (R : Rel K b B G H ω σ ρ) : ∀ a, ω a ≠ none → G a = none := fun a h => by
  obtain ⟨l, q⟩ := lab_of h
  exact (R.own a l q).1
theorem Rel.hH (R : Rel K b B G H ω σ ρ) : ∀ a, ω a ≠ none → H a ≠ none := fun a h => by
  obtain ⟨l, q⟩ := lab_of h
  exact (R.own a l q).2.1
theorem Rel.step (R : Rel K b B G H ω σ ρ) (s : Step G H G' H') (le : Same G' H') : Rel K b B G' H' ω σ ρ where
  le := le
  leG := R.leG.trans s.g
  old := fun a o h e => s.h a o (R.old a o h e)
  dom := fun a e => R.dom a (by
    cases q : H a with
    | none => rfl
    | some o => rw [s.h a o q] at e; cases e)
  fr := fun a h g => s.hid a (fun e => h (R.dom a e)) (R.fr a h g)
  own := fun a l h => ⟨s.hid a (R.own a l h).2.1 (R.own a l h).1, Same.ne s.h (R.own a l h).2.1, (R.own a l h).2.2⟩
  bB := R.bB
  len := R.len
  slot := fun i d e => by
    obtain ⟨v, h1, h2⟩ := R.slot i d e
    refine ⟨v, h1, h2.go s.g fun a p q => ⟨q, ?_⟩⟩
    obtain ⟨o, z⟩ := some_of_ne (R.own a _ q).2.1
    rw [z, s.h a o z]
  byr := R.byr
  pin := R.pin
/-- a slot is forgotten -/
theorem Rel.drop (R : Rel K b B G H ω σ ρ) (i : Nat) : Rel K b B G H ω σ (ρ.set i none) where
  le := R.le
  leG := R.leG
  old := R.old
  dom := R.dom
  fr := R.fr
  own := R.own
  bB := R.bB
  len := by rw [List.length_set]; exact R.len
  slot := fun j d e => by
    rw [List.getElem?_set] at e
    split at e
    · split at e <;> cases e
    · exact R.slot j d e
  byr := R.byr
  pin := R.pin
/-- the nodes of slot i are frozen -/
theorem Rel.melt (R : Rel K b B G H ω σ ρ) (i : Nat) (hi : i ∉ B.l) {d : D} (hd : ρ[i]? = some (some d)) :
    Rel K b B (DL.melt ω i G H) H (unlab ω i) σ (ρ.set i (some (frz d))) where
  le := melt_le R.le
  leG := R.leG.trans (melt_same R.hG)
  old := R.old
  dom := R.dom
  fr := fun a h g => by
    by_cases c : ∃ p, ω a = some (i, p)
    · obtain ⟨p, c⟩ := c
      rcases (R.own a _ c).2.2 with z | ⟨p', z⟩
      · exact absurd z h
      · exact absurd (R.bB a _ z) hi
    · rw [melt_ne (fun p z => c ⟨p, z⟩)]
      exact R.fr a h g
  own := fun a l q => by
    obtain ⟨q1, q2⟩ := unlab_some q
    obtain ⟨h1, h2, h3⟩ := R.own a l q1
    refine ⟨?_, h2, h3⟩
    rw [melt_ne (fun p z => by rw [q1] at z; injection z with z; subst z; exact q2 rfl)]
    exact h1
  bB := R.bB
  len := by rw [List.length_set]; exact R.len
  slot := fun j e hj => by
    rw [List.getElem?_set] at hj
    split at hj
    · rename_i c
      subst c
      split at hj
      · cases hj
        obtain ⟨v, h1, h2⟩ := R.slot i d hd
        exact ⟨v, h1, .frz (h2.frozen R.hG)⟩
      · cases hj
    · rename_i c
      obtain ⟨v, h1, h2⟩ := R.slot j e hj
      exact ⟨v, h1, h2.go (melt_same R.hG) fun a p q => ⟨unlab_keep q (fun z => c z.symm), rfl⟩⟩
  byr := R.byr
  pin := R.pin
end
end DL
set_option Elab.async false
set_option linter.all false
set_option maxRecDepth 100000
set_option maxHeartbeats 1000000
namespace DL
open PySem PySem.Spec PyProof.Rows L2

theorem same_upd {H : Hp} {p : Addr} {o : HO} (h : H p = none) : Same H (upd H p o) := fun a u e => by rw [upd_ne (ne_of_none e h)]; exact e
theorem same_none {G H : Hp} (e : Same G H) {p : Addr} (h : H p = none) : G p = none := e.free h
/-- what a piece of code may do: what is frozen stays, what no slot owns stays as it is and unowned, what is hidden stays hidden -/
structure Tr (G H : Hp) (ω : Lb) (G' H' : Hp) (ω' : Lb) : Prop where
  g : Same G G'
  keep : ∀ a o, ω a = none → H a = some o → H' a = some o ∧ ω' a = none
  hid : ∀ a, ω a = none → H a ≠ none → G a = none → G' a = none
  dom : ∀ a, H' a = none → H a = none
theorem Tr.refl {G H : Hp} {ω : Lb} : Tr G H ω G H ω := ⟨Same.refl _, fun _ _ h e => ⟨e, h⟩, fun _ _ _ h => h, fun _ h => h⟩
theorem Tr.trans {G H G1 H1 G2 H2 : Hp} {ω ω1 ω2 : Lb} (a : Tr G H ω G1 H1 ω1) (b : Tr G1 H1 ω1 G2 H2 ω2) : Tr G H ω G2 H2 ω2 where
  g := a.g.trans b.g
  keep := fun x o h e => b.keep x o (a.keep x o h e).2 (a.keep x o h e).1
  hid := fun x h e g => by
    obtain ⟨o, q⟩ := some_of_ne e
    obtain ⟨k1, k2⟩ := a.keep x o h q
    exact b.hid x k2 (by rw [k1]; simp) (a.hid x h e g)
  dom := fun x h => a.dom x (b.dom x h)
theorem Tr.step {G H G' H' : Hp} {ω : Lb} (s : Step G H G' H') : Tr G H ω G' H' ω := ⟨s.g, fun a o h e => ⟨s.h a o e, h⟩, fun a _ h g => s.hid a h g, fun a h => s.h.free h⟩

abbrev Rep (α β : Type) := Bs → Hp → Lb → Hp → Hp → Lb → β → α → Prop
/-- nodes of a value that stands in no slot as yet; Hs, ωs: the state ahead -/
structure Tmp (b : Bs) (Hs : Hp) (ωs : Lb) (G H : Hp) (ω ωt : Lb) : Prop where
  at' : ∀ a, ωt a ≠ none → ω a = none ∧ G a = none ∧ H a ≠ none ∧ b.H a = none ∧ (Hs a = none ∨ ωs a ≠ none)
abbrev IsR (K : PySem.W.Frag) : Rep D V := fun _ _ _ G _ _ v d => Is K G v d
abbrev IsAR (K : PySem.W.Frag) : Rep (List D) (List V) := fun _ _ _ G _ _ vs ds => IsAll K G vs ds
abbrev EqR (α : Type) : Rep α α := fun _ _ _ _ _ _ x a => x = a
abbrev OwnR (K : PySem.W.Frag) : Rep D V := fun b Hs ωs G H ω v d => ∃ ωt, Tmp b Hs ωs G H ω ωt ∧ Own K G H ωt 0 v d
/-- seen from further back it still holds -/
class Back {α β : Type} (R : Rep α β) : Prop where
  back : ∀ {b : Bs} {G H G1 H1 G' H' : Hp} {ω ω1 ω' : Lb} {x : β} {a : α}, Tr G H ω G1 H1 ω1 → R b H1 ω1 G' H' ω' x a → R b H ω G' H' ω' x a
instance {K : PySem.W.Frag} : Back (IsR K) := ⟨fun _ h => h⟩
instance {K : PySem.W.Frag} : Back (IsAR K) := ⟨fun _ h => h⟩
instance {α : Type} : Back (EqR α) := ⟨fun _ h => h⟩
theorem Tmp.back {b : Bs} {G H G1 H1 G' H' : Hp} {ω ω1 ω' ωt : Lb} (t : Tr G H ω G1 H1 ω1) (T : Tmp b H1 ω1 G' H' ω' ωt) : Tmp b H ω G' H' ω' ωt := ⟨fun a h => by
  obtain ⟨h1, h2, h3, h4, h5⟩ := T.at' a h
  refine ⟨h1, h2, h3, h4, ?_⟩
  cases q : ω a with
  | some l => exact .inr (by simp)
  | none =>
    cases q2 : H a with
    | none => exact .inl rfl
    | some o =>
      obtain ⟨k1, k2⟩ := t.keep a o q q2
      rcases h5 with h5 | h5
      · rw [k1] at h5; cases h5
      · exact absurd k2 h5⟩
instance {K : PySem.W.Frag} : Back (OwnR K) := ⟨fun t ⟨ωt, T, o⟩ => ⟨ωt, T.back t, o⟩⟩
def IsX (K : PySem.W.Frag) (G H : Hp) (c : Exn) (cls : Value) (dd : Option Addr) : Prop :=
  (∃ C : Addr, cls = .ref C ∧ PySem.W.nsIn K mainGlobals (c.cls : Str) = some (some (.ref C))) ∧ ((c.fs = [] ∧ dd = none) ∨ ∃ d fs, dd = some d ∧ H d = some (.xd fs) ∧ IsFs K G fs c.fs)

section
variable (K : PySem.W.Frag) (B : By) (W : WX)
def Post {α β : Type} (b : Bs) (G H : Hp) (ω : Lb) (σ : L2.St) (R : Rep α β) (Q : β → Hp → Prop) : Out α → Prop
  | .ok a ρ' q => ∀ x G' H' ω', Rel K b B G' H' ω' σ ρ' → Tr G H ω G' H' ω' → (q = true → ω' = ω ∧ Same H H') → R b H ω G' H' ω' x a → Q x H'
  | .ex c ρ' => ∀ cls dd G' H' ω', Rel K b B G' H' ω' σ ρ' → Tr G H ω G' H' ω' → IsX K G' H' c cls dd → W cls dd σ H'
  | .no => False
def Sat {α β : Type} (R : Rep α β) (t : L2.St → Hp → (β → Hp → Prop) → Prop) (F : Env → Out α) : Prop :=
  ∀ b G H ω σ ρ, Rel K b B G H ω σ ρ → ∀ Q, Post K B W b G H ω σ R Q (F ρ) → t σ H Q
end
section
variable {K : PySem.W.Frag} {B : By} {W : WX}
/-- an expression, then what leans on it -/
theorem Sat.at0 {α β γ δ : Type} {R : Rep α β} {R' : Rep γ δ} [Back R'] {t : L2.St → Hp → (β → Hp → Prop) → Prop} {F : Env → Out α} {Fu : α → Env → Out γ} {b : Bs} {G H : Hp} {ω : Lb} {σ : L2.St} {ρ : Env} {Q : δ → Hp → Prop} {Q' : β → Hp → Prop}
    (h : ∀ Q, Post K B W b G H ω σ R Q (F ρ) → t σ H Q) (post : Post K B W b G H ω σ R' Q ((F ρ).bind Fu))
    (hu : ∀ G1 H1 ω1 ρ1 x a, Rel K b B G1 H1 ω1 σ ρ1 → Tr G H ω G1 H1 ω1 → R b H ω G1 H1 ω1 x a → Post K B W b G1 H1 ω1 σ R' Q (Fu a ρ1) → Q' x H1) : t σ H Q' := by
  refine h _ ?_
  unfold Out.bind at post
  cases e : F ρ with
  | no => rw [e] at post; exact post
  | ex c ρ1 => rw [e] at post; exact post
  | ok a ρ1 q =>
    rw [e] at post
    intro x G1 H1 ω1 rel1 s1 q1 r1
    refine hu G1 H1 ω1 ρ1 x a rel1 s1 r1 ?_
    dsimp only at post
    cases e2 : Fu a ρ1 with
    | no => rw [e2] at post; exact post
    | ex c ρ2 => rw [e2] at post; exact fun cls dd G2 H2 ω2 r2 s2 i => post cls dd G2 H2 ω2 r2 (s1.trans s2) i
    | ok d ρ2 q' =>
      rw [e2] at post
      intro y G2 H2 ω2 rel2 s2 q2 r2
      refine post y G2 H2 ω2 rel2 (s1.trans s2) (fun hq => ?_) (Back.back s1 r2)
      rw [Bool.and_eq_true] at hq
      obtain ⟨w1, p1⟩ := q1 hq.1
      obtain ⟨w2, p2⟩ := q2 hq.2
      exact ⟨w2.trans w1, p1.trans p2⟩
theorem Sat.at {α β γ δ : Type} {R : Rep α β} {R' : Rep γ δ} [Back R'] {t : L2.St → Hp → (β → Hp → Prop) → Prop} {F : Env → Out α} {Fu : α → Env → Out γ} {b : Bs} {G H : Hp} {ω : Lb} {σ : L2.St} {ρ : Env} {Q : δ → Hp → Prop} {Q' : β → Hp → Prop}
    (h : Sat K B W R t F) (rel : Rel K b B G H ω σ ρ) (post : Post K B W b G H ω σ R' Q ((F ρ).bind Fu))
    (hu : ∀ G1 H1 ω1 ρ1 x a, Rel K b B G1 H1 ω1 σ ρ1 → Tr G H ω G1 H1 ω1 → R b H ω G1 H1 ω1 x a → Post K B W b G1 H1 ω1 σ R' Q (Fu a ρ1) → Q' x H1) : t σ H Q' := Sat.at0 (h b G H ω σ ρ rel) post hu
theorem Sat.bind {α β γ δ : Type} {R : Rep α β} {R' : Rep γ δ} [Back R'] {t : L2.St → Hp → (β → Hp → Prop) → Prop} {F : Env → Out α} {u : β → L2.St → Hp → (δ → Hp → Prop) → Prop} {Fu : α → Env → Out γ}
    (h : Sat K B W R t F) (hu : ∀ b Hs ωs G H ω σ ρ, Rel K b B G H ω σ ρ → ∀ x a, R b Hs ωs G H ω x a → ∀ Q, Post K B W b G H ω σ R' Q (Fu a ρ) → u x σ H Q) :
    Sat K B W R' (fun σ H Q => t σ H fun x H1 => u x σ H1 Q) (fun ρ => (F ρ).bind Fu) := fun b G H ω σ ρ rel Q post =>
  h.at rel post fun G1 H1 ω1 ρ1 x a rel1 _ r p => hu b H ω G1 H1 ω1 σ ρ1 rel1 x a r Q p
/-- nothing happens -/
theorem Post.now {α β : Type} {b : Bs} {G H : Hp} {ω : Lb} {σ : L2.St} {ρ : Env} {R : Rep α β} {Q : β → Hp → Prop} {a : α} {x : β} (rel : Rel K b B G H ω σ ρ) (h : Post K B W b G H ω σ R Q (.ok a ρ true)) (r : R b H ω G H ω x a) : Q x H :=
  h x G H ω rel .refl (fun _ => ⟨rfl, Same.refl _⟩) r
theorem Post.step {α β : Type} {b : Bs} {G H G' H' : Hp} {ω : Lb} {σ : L2.St} {ρ : Env} {R : Rep α β} {Q : β → Hp → Prop} {a : α} {x : β} (rel : Rel K b B G H ω σ ρ) (h : Post K B W b G H ω σ R Q (.ok a ρ true)) (s : Step G H G' H') (le : Same G' H') (r : R b H ω G' H' ω x a) : Q x H' :=
  h x G' H' ω (rel.step s le) (.step s) (fun _ => ⟨rfl, s.h⟩) r
end

/-! ### what an operation on values gives: a value, a new list, or nothing is told -/
inductive Res where
  | val (d : D) | new (ds : List D) | no
def PostR (K : PySem.W.Frag) (G H : Hp) (Q : VK) : Res → Prop
  | .val d => ∀ v G' H', Step G H G' H' → Same G' H' → Is K G' v d → Q v H'
  | .new ds => ∀ p xs, H p = none → IsAll K G xs ds → Q (.ref p) (upd H p (.lst xs))
  | .no => False
def resE (r : Res) (ρ : Env) : Out D := match r with
  | .val d => .ok d ρ true
  | .new ds => .ok (.lst false ds) ρ true
  | .no => .no
def resO (r : Res) (ρ : Env) : Out D := match r with
  | .val d => .ok d ρ true
  | .new ds => .ok (.lst true ds) ρ true
  | .no => .no
/-- a new object, frozen at once -/
theorem Step.new {G H : Hp} {p : Addr} {o : HO} (le : Same G H) (h : H p = none) : Step G H (upd G p o) (upd H p o) where
  g := same_upd (same_none le h)
  h := same_upd h
  hid := fun a ha g => by
    by_cases c : a = p
    · subst c; exact absurd h ha
    · rw [upd_ne c]; exact g
theorem same_both {G H : Hp} {p : Addr} {o : HO} (le : Same G H) : Same (upd G p o) (upd H p o) := fun a u e => by
  by_cases c : a = p
  · subst c; rw [upd_same] at e ⊢; exact e
  · rw [upd_ne c] at e ⊢; exact le a u e
/-- a new object that is not frozen -/
theorem Step.hidden {G H : Hp} {p : Addr} {o : HO} (h : H p = none) : Step G H G (upd H p o) := ⟨Same.refl _, same_upd h, fun _ _ g => g⟩
section
variable {K : PySem.W.Frag} {B : By} {W : WX} {b : Bs} {G H : Hp} {ω : Lb} {σ : L2.St} {ρ : Env} {Q : VK}
theorem res_e {r : Res} (rel : Rel K b B G H ω σ ρ) (h : Post K B W b G H ω σ (IsR K) Q (resE r ρ)) : PostR K G H Q r := by
  cases r with
  | val d => exact fun v G' H' s le i => Post.step rel h s le i
  | new ds => exact fun p xs hp i => Post.step rel h (Step.new rel.le hp) (same_both rel.le) (.lst (Rd.of upd_same) (i.mono (same_upd (same_none rel.le hp))))
  | no => exact h
theorem own_new {p : Addr} {xs : List V} {ds : List D} (rel : Rel K b B G H ω σ ρ) (hp : H p = none) (i : IsAll K G xs ds) : OwnR K b H ω G (upd H p (.lst xs)) ω (.ref p) (.lst true ds) := by
  refine ⟨fun a => if a = p then some (0, none) else none, ⟨fun a ha => ?_⟩, .one (.lst (by simp) upd_same i)⟩
  by_cases c : a = p
  · subst c
    refine ⟨?_, same_none rel.le hp, by rw [upd_same]; simp, rel.dom _ hp, .inl hp⟩
    cases q : ω a with
    | none => rfl
    | some l => exact absurd hp (rel.own a l q).2.1
  · simp [c] at ha
theorem own_frz {Hs : Hp} {ωs : Lb} {v : V} {d : D} (h : Is K G v d) : OwnR K b Hs ωs G H ω v d := ⟨fun _ => none, ⟨fun a ha => absurd rfl ha⟩, .frz h⟩
theorem res_o {r : Res} (rel : Rel K b B G H ω σ ρ) (h : Post K B W b G H ω σ (OwnR K) Q (resO r ρ)) : PostR K G H Q r := by
  cases r with
  | val d => exact fun v G' H' s le i => Post.step rel h s le (own_frz i)
  | new ds =>
    intro p xs hp i
    exact Post.step rel h (Step.hidden hp) (rel.le.trans (same_upd hp)) (own_new rel hp i)
  | no => exact h
end

/-! ### judgements -/
section
variable (X : Cx) (B : By) (W : WX)
structure DE (e : Expr) (t : TE) (F : Env → Out D) : Prop where
  pe : PE X e t
  sat : Sat X.K B W (IsR X.K) t F
/-- what may be a new list or object of its own -/
structure DO (e : Expr) (t : TE) (F : Env → Out D) : Prop where
  pe : PE X e t
  sat : Sat X.K B W (OwnR X.K) t F
structure DT (e : Expr) (t : TT) (F : Env → Out Bool) : Prop where
  pt : PT X e t
  sat : Sat X.K B W (EqR Bool) t F
structure DW (e : Expr) (t : TT) (F : Env → Out Bool) : Prop where
  pw : PW X e t
  sat : Sat X.K B W (EqR Bool) t F
structure DA (es : List Expr) (t : TA) (F : Env → Out (List D)) : Prop where
  pa : PA X es t
  sat : Sat X.K B W (IsAR X.K) t F
end

/-! ### from owned to frozen -/
def owned : D → Bool
  | .lst o _ => o
  | .ob o _ _ => o
  | .dct o _ => o
  | _ => false
def fFrz (F : Env → Out D) : Env → Out D := fun ρ => match F ρ with
  | .ok d ρ' q => .ok (frz d) ρ' (q && !owned d)
  | .ex c ρ' => .ex c ρ'
  | .no => .no
section
variable {K : PySem.W.Frag} {B : By} {W : WX}
theorem own_is {G H : Hp} {ω : Lb} {i : Nat} {v : V} {d : D} (h : Own K G H ω i v d) (c : owned d = false) : Is K G v d := by
  cases h with
  | one o =>
    cases o with
    | frz i => exact i
    | lst _ _ _ => exact absurd c (by simp [owned])
  | ob _ _ _ => exact absurd c (by simp [owned])
theorem own_un {b : Bs} {Hs : Hp} {ωs : Lb} {G H : Hp} {ω : Lb} {v : V} {d : D} (o : OwnR K b Hs ωs G H ω v d) (c : owned d = false) : Is K G v d := by
  obtain ⟨ωt, _, o⟩ := o
  exact own_is o c
theorem Rel.meltT {b : Bs} {Hs : Hp} {ωs : Lb} {G H : Hp} {ω ωt : Lb} {σ : L2.St} {ρ : Env} (R : Rel K b B G H ω σ ρ) (T : Tmp b Hs ωs G H ω ωt) : Rel K b B (DL.melt ωt 0 G H) H ω σ ρ where
  le := melt_le R.le
  leG := R.leG.trans (melt_same fun a h => (T.at' a h).2.1)
  old := R.old
  dom := R.dom
  fr := fun a h g => by
    by_cases c : ∃ p, ωt a = some (0, p)
    · obtain ⟨p, c⟩ := c
      exact absurd (T.at' a (by rw [c]; simp)).2.2.2.1 h
    · rw [melt_ne (fun p z => c ⟨p, z⟩)]
      exact R.fr a h g
  own := fun a l h => by
    obtain ⟨h1, h2, h3⟩ := R.own a l h
    refine ⟨?_, h2, h3⟩
    rw [melt_ne (fun p z => by
      have q := (T.at' a (by rw [z]; simp)).1
      rw [h] at q
      cases q)]
    exact h1
  bB := R.bB
  len := R.len
  slot := fun i d e => by
    obtain ⟨v, h1, h2⟩ := R.slot i d e
    exact ⟨v, h1, h2.go (melt_same fun a h => (T.at' a h).2.1) fun a p q => ⟨q, rfl⟩⟩
  byr := R.byr
  pin := R.pin
theorem Tr.meltT {b : Bs} {G H G1 H1 : Hp} {ω ω1 ωt : Lb} (s : Tr G H ω G1 H1 ω1) (T : Tmp b H ω G1 H1 ω1 ωt) : Tr G H ω (melt ωt 0 G1 H1) H1 ω1 where
  g := s.g.trans (melt_same fun a h => (T.at' a h).2.1)
  keep := s.keep
  hid := fun a h e g => by
    rw [melt_ne (fun p z => ?_)]
    · exact s.hid a h e g
    · rcases (T.at' a (by rw [z]; simp)).2.2.2.2 with y | y
      · exact e y
      · exact y h
  dom := s.dom
theorem sat_frz {t : TE} {F : Env → Out D} (h : Sat K B W (OwnR K) t F) : Sat K B W (IsR K) t (fFrz F) := by
  intro b G H ω σ ρ rel Q post
  refine h b G H ω σ ρ rel Q ?_
  unfold fFrz at post
  cases e : F ρ with
  | no => rw [e] at post; exact post
  | ex c ρ1 => rw [e] at post; exact post
  | ok d ρ1 q =>
    rw [e] at post
    rintro v G1 H1 ω1 rel1 s1 q1 ⟨ωt, T, o⟩
    have hG : ∀ a, ωt a ≠ none → G1 a = none := fun a h => (T.at' a h).2.1
    cases c : owned d with
    | true =>
      refine post v (melt ωt 0 G1 H1) H1 ω1 (rel1.meltT T) (s1.meltT T) (fun hq => ?_) (o.frozen hG)
      rw [c] at hq
      simp at hq
    | false =>
      refine post v G1 H1 ω1 rel1 s1 (fun hq => ?_) (own_is o c).frz
      rw [Bool.and_eq_true] at hq
      exact q1 hq.1
end
end DL
set_option Elab.async false
set_option linter.all false
set_option maxRecDepth 100000
set_option maxHeartbeats 1000000
namespace DL
open PySem PySem.Spec PyProof.Rows L2

/-! ### names and constants -/
def fVar (B : List Nat) (i : Nat) : Env → Out D := fun ρ => match ρ[i]? with
  | some (some d) => if owned d then (if i ∈ B then .no else .ok (frz d) (ρ.set i (some (frz d))) false) else .ok d ρ true
  | _ => .no
def fMov (B : List Nat) (i : Nat) : Env → Out D := fun ρ => match ρ[i]? with
  | some (some d) => if owned d then (if i ∈ B then .no else .ok d (ρ.set i none) false) else .ok d ρ true
  | _ => .no
def fC (d : D) : Env → Out D := fun ρ => .ok d ρ true
theorem tr_melt {G H : Hp} {ω : Lb} {i : Nat} (hG : ∀ a, ω a ≠ none → G a = none) : Tr G H ω (melt ω i G H) H (unlab ω i) where
  g := melt_same hG
  keep := fun a o h e => ⟨e, by
    cases q : unlab ω i a with
    | none => rfl
    | some l => rw [(unlab_some q).1] at h; cases h⟩
  hid := fun a h e g => by rw [melt_ne (fun p z => by rw [h] at z; cases z)]; exact g
  dom := fun _ h => h
theorem tr_unlab {G H : Hp} {ω : Lb} {i : Nat} : Tr G H ω G H (unlab ω i) where
  g := Same.refl _
  keep := fun a o h e => ⟨e, by
    cases q : unlab ω i a with
    | none => rfl
    | some l => rw [(unlab_some q).1] at h; cases h⟩
  hid := fun a h e g => g
  dom := fun _ h => h
section
variable {K : PySem.W.Frag} {B : By} {W : WX}
theorem sat_var {i : Nat} : Sat K B W (IsR K) (tVar i) (fVar B.l i) := by
  intro b G H ω σ ρ rel Q post
  unfold fVar at post
  cases e : ρ[i]? with
  | none => rw [e] at post; exact post.elim
  | some o =>
    cases o with
    | none => rw [e] at post; exact post.elim
    | some d =>
      rw [e] at post
      obtain ⟨v, h1, h2⟩ := rel.slot i d e
      refine ⟨v, h1, ?_⟩
      dsimp only at post
      cases c : owned d with
      | false =>
        rw [c] at post
        exact Post.now rel post (own_is h2 c)
      | true =>
        rw [c] at post
        by_cases m : i ∈ B.l
        · rw [if_pos rfl, if_pos m] at post; exact post.elim
        · rw [if_pos rfl, if_neg m] at post
          exact post v (melt ω i G H) H (unlab ω i) (rel.melt i m e) (tr_melt rel.hG) (fun q => by cases q) (h2.frozen rel.hG)
/-- slot i's nodes stand in no slot -/
theorem Rel.move {b : Bs} {G H : Hp} {ω : Lb} {σ : L2.St} {ρ : Env} (R : Rel K b B G H ω σ ρ) (i : Nat) : Rel K b B G H (unlab ω i) σ (ρ.set i none) where
  le := R.le
  leG := R.leG
  old := R.old
  dom := R.dom
  fr := R.fr
  own := fun a l q => by
    obtain ⟨q1, q2⟩ := unlab_some q
    exact R.own a l q1
  bB := R.bB
  len := by rw [List.length_set]; exact R.len
  slot := fun j d e => by
    rw [List.getElem?_set] at e
    split at e
    · split at e <;> cases e
    · rename_i c
      obtain ⟨v, h1, h2⟩ := R.slot j d e
      exact ⟨v, h1, h2.go (Same.refl _) fun a p q => ⟨unlab_keep q (fun z => c z.symm), rfl⟩⟩
  byr := R.byr
  pin := R.pin
def only (ω : Lb) (i j : Nat) : Lb := fun a => match ω a with
  | some (k, p) => if k = i then some (j, p) else none
  | none => none
theorem only_at {ω : Lb} {i j : Nat} {a : Addr} {p : Option Str} (h : ω a = some (i, p)) : only ω i j a = some (j, p) := by unfold only; rw [h]; simp
theorem only_some {ω : Lb} {i j : Nat} {a : Addr} {l : Nat × Option Str} (h : only ω i j a = some l) : ω a = some (i, l.2) ∧ l.1 = j := by
  unfold only at h
  cases q : ω a with
  | none => rw [q] at h; cases h
  | some m =>
    rw [q] at h
    obtain ⟨k, p⟩ := m
    by_cases c : k = i
    · simp [c] at h; subst h; exact ⟨by rw [c], rfl⟩
    · simp [c] at h
theorem sat_mov {i : Nat} : Sat K B W (OwnR K) (tVar i) (fMov B.l i) := by
  intro b G H ω σ ρ rel Q post
  unfold fMov at post
  cases e : ρ[i]? with
  | none => rw [e] at post; exact post.elim
  | some o =>
    cases o with
    | none => rw [e] at post; exact post.elim
    | some d =>
      rw [e] at post
      obtain ⟨v, h1, h2⟩ := rel.slot i d e
      refine ⟨v, h1, ?_⟩
      dsimp only at post
      cases c : owned d with
      | false =>
        rw [c] at post
        exact Post.now rel post (own_frz (own_is h2 c))
      | true =>
        rw [c] at post
        by_cases m : i ∈ B.l
        · rw [if_pos rfl, if_pos m] at post; exact post.elim
        · rw [if_pos rfl, if_neg m] at post
          refine post v G H (unlab ω i) (rel.move i) tr_unlab (fun q => by cases q) ⟨only ω i 0, ⟨fun a ha => ?_⟩, h2.go (Same.refl _) fun a p q => ⟨only_at q, rfl⟩⟩
          obtain ⟨l, q⟩ := lab_of ha
          obtain ⟨q1, q2⟩ := only_some q
          obtain ⟨z1, z2, z3⟩ := rel.own a _ q1
          refine ⟨unlab_at q1, z1, z2, ?_, .inr (by rw [q1]; simp)⟩
          rcases z3 with z | ⟨p', z⟩
          · exact z
          · exact absurd (rel.bB a _ z) m
theorem sat_c {v : V} {d : D} (h : ∀ G, Is K G v d) : Sat K B W (IsR K) (tC v) (fC d) := fun b G H ω σ ρ rel Q post => Post.now rel post (h G)
end
section
variable {X : Cx} {B : By} {W : WX}
theorem DE.o {e : Expr} {t : TE} {F : Env → Out D} (h : DE X B W e t F) : DO X B W e t F := ⟨h.pe, fun b G H ω σ ρ rel Q post => h.sat b G H ω σ ρ rel Q (by
  cases c : F ρ with
  | no => rw [c] at post; exact post
  | ex c' ρ' => rw [c] at post; exact post
  | ok d ρ' q => rw [c] at post; exact fun v G' H' ω' r s f i => post v G' H' ω' r s f (own_frz i))⟩
theorem DO.z {e : Expr} {t : TE} {F : Env → Out D} (h : DO X B W e t F) : DE X B W e t (fFrz F) := ⟨h.pe, sat_frz h.sat⟩
theorem dv (i : Nat) {x : Str} {pos : Pos} (hN : X.N[i]? = some x := by rfl) (hv : Vis X.env.scope x := by first | exact Or.inl rfl | exact Or.inr (Or.inl rfl) | exact Or.inr (Or.inr rfl)) (hd : (x == ("__debug__" : Str)) = false := by decide)
    (hcd : (x == ("__classdict__" : Str)) = false := by decide) : DE X B W (.Name x pos) (tVar i) (fVar B.l i) := ⟨pe_var hN hv hd hcd, sat_var⟩
theorem dm (i : Nat) {x : Str} {pos : Pos} (hN : X.N[i]? = some x := by rfl) (hv : Vis X.env.scope x := by first | exact Or.inl rfl | exact Or.inr (Or.inl rfl) | exact Or.inr (Or.inr rfl)) (hd : (x == ("__debug__" : Str)) = false := by decide)
    (hcd : (x == ("__classdict__" : Str)) = false := by decide) : DO X B W (.Name x pos) (tVar i) (fMov B.l i) := ⟨pe_var hN hv hd hcd, sat_mov⟩
theorem d_int {i j pos} : DE X B W (.Constant (.int i) j pos) (tC (.int i)) (fC (.int i)) := ⟨pe_int, sat_c fun _ => .int i⟩
theorem d_bl {i j pos} : DE X B W (.Constant (.bool i) j pos) (tC (.bl i)) (fC (.bl i)) := ⟨pe_bl, sat_c fun _ => .bl i⟩
theorem d_non {j pos} : DE X B W (.Constant .none j pos) (tC .non) (fC .non) := ⟨pe_non, sat_c fun _ => .non⟩
theorem d_str {x j pos} : DE X B W (.Constant (.str x) j pos) (tC (.str x)) (fC (.str x)) := ⟨pe_str, sat_c fun _ => .str x⟩
/-- a name of the module -/
theorem d_glob {x : Str} {v : V} {u : Value} {d : D} {pos : Pos} (hi : ∀ G, Is X.K G v d) (hg : Gl X x) (hm : X.mg x = some u) (r : RelV v u) (hd : (x == ("__debug__" : Str)) = false := by decide) : DE X B W (.Name x pos) (tC v) (fC d) := ⟨pe_glob hg hm r hd, sat_c hi⟩
theorem d_type {x : Str} {n : String} {pos : Pos} (hg : Gl X x) (hm : X.mg x = none) (hv : bootBuiltins x = some (.type n)) (hn : x ≠ "__name__" := by decide) (hd : (x == ("__debug__" : Str)) = false := by decide) : DE X B W (.Name x pos) (tC (.ty n)) (fC (.ty n)) :=
  ⟨pe_bltn hg hm hv rfl hn hd, sat_c fun _ => .ty n⟩
end

/-! ### operations on values -/
def OpV (K : PySem.W.Frag) (r : R2) (g : D → D → Res) : Prop := ∀ G H x y a c, Same G H → Is K G x a → Is K G y c → ∀ Q, PostR K G H Q (g a c) → r x y H Q
def UnV (K : PySem.W.Frag) (r : V → Hp → VK → Prop) (g : D → Res) : Prop := ∀ G H x a, Same G H → Is K G x a → ∀ Q, PostR K G H Q (g a) → r x H Q
def CallV (K : PySem.W.Frag) (r : List V → Hp → VK → Prop) (g : List D → Res) : Prop := ∀ G H xs as, Same G H → IsAll K G xs as → ∀ Q, PostR K G H Q (g as) → r xs H Q
theorem PostR.here {K : PySem.W.Frag} {G H : Hp} {Q : VK} {v : V} {d : D} (h : PostR K G H Q (.val d)) (le : Same G H) (i : Is K G v d) : Q v H := h v G H (Step.refl _ _) le i
def fOp (g : D → D → Res) (Fa Fb : Env → Out D) : Env → Out D := fun ρ => (Fa ρ).bind fun a ρ1 => (Fb ρ1).bind fun c ρ2 => resE (g a c) ρ2
def fOpO (g : D → D → Res) (Fa Fb : Env → Out D) : Env → Out D := fun ρ => (Fa ρ).bind fun a ρ1 => (Fb ρ1).bind fun c ρ2 => resO (g a c) ρ2
def fUn (g : D → Res) (Fa : Env → Out D) : Env → Out D := fun ρ => (Fa ρ).bind fun a ρ1 => resE (g a) ρ1
def fCl (g : List D → Res) (Fa : Env → Out (List D)) : Env → Out D := fun ρ => (Fa ρ).bind fun a ρ1 => resE (g a) ρ1
def fClO (g : List D → Res) (Fa : Env → Out (List D)) : Env → Out D := fun ρ => (Fa ρ).bind fun a ρ1 => resO (g a) ρ1
section
variable {K : PySem.W.Frag} {B : By} {W : WX} {ta tb : TE} {t : TA} {Fa Fb : Env → Out D} {F : Env → Out (List D)} {r : R2}
theorem sat_op {g : D → D → Res} (hr : OpV K r g) (ha : Sat K B W (IsR K) ta Fa) (hb : Sat K B W (IsR K) tb Fb) : Sat K B W (IsR K) (tOp r ta tb) (fOp g Fa Fb) :=
  Sat.bind (R' := IsR K) (Fu := fun a ρ1 => (Fb ρ1).bind fun c ρ2 => resE (g a c) ρ2) (t := ta) (u := fun x σ H Q => tb σ H fun y H2 => r x y H2 Q) ha fun b Hs ωs G H ω σ ρ rel x a i Q post => hb.at rel post fun G1 H1 ω1 ρ1 y c rel1 s j p => hr G1 H1 x y a c rel1.le (i.mono s.g) j Q (res_e rel1 p)
theorem sat_opO {g : D → D → Res} (hr : OpV K r g) (ha : Sat K B W (IsR K) ta Fa) (hb : Sat K B W (IsR K) tb Fb) : Sat K B W (OwnR K) (tOp r ta tb) (fOpO g Fa Fb) :=
  Sat.bind (R' := OwnR K) (Fu := fun a ρ1 => (Fb ρ1).bind fun c ρ2 => resO (g a c) ρ2) (t := ta) (u := fun x σ H Q => tb σ H fun y H2 => r x y H2 Q) ha fun b Hs ωs G H ω σ ρ rel x a i Q post => hb.at rel post fun G1 H1 ω1 ρ1 y c rel1 s j p => hr G1 H1 x y a c rel1.le (i.mono s.g) j Q (res_o rel1 p)
theorem sat_un {r : V → Hp → VK → Prop} {g : D → Res} (hr : UnV K r g) (ha : Sat K B W (IsR K) ta Fa) : Sat K B W (IsR K) (tUn r ta) (fUn g Fa) :=
  Sat.bind (R' := IsR K) (Fu := fun a ρ1 => resE (g a) ρ1) (t := ta) (u := fun x σ H Q => r x H Q) ha fun b Hs ωs G H ω σ ρ rel x a i Q post => hr G H x a rel.le i Q (res_e rel post)
theorem sat_cl {r : List V → Hp → VK → Prop} {g : List D → Res} (hr : CallV K r g) (ha : Sat K B W (IsAR K) t F) : Sat K B W (IsR K) (tCB r t) (fCl g F) :=
  Sat.bind (R' := IsR K) (Fu := fun a ρ1 => resE (g a) ρ1) (t := t) (u := fun x σ H Q => r x H Q) ha fun b Hs ωs G H ω σ ρ rel x a i Q post => hr G H x a rel.le i Q (res_e rel post)
theorem sat_clO {r : List V → Hp → VK → Prop} {g : List D → Res} (hr : CallV K r g) (ha : Sat K B W (IsAR K) t F) : Sat K B W (OwnR K) (tCB r t) (fClO g F) :=
  Sat.bind (R' := OwnR K) (Fu := fun a ρ1 => resO (g a) ρ1) (t := t) (u := fun x σ H Q => r x H Q) ha fun b Hs ωs G H ω σ ρ rel x a i Q post => hr G H x a rel.le i Q (res_o rel post)
end

/-! ### argument lists, displays -/
def fNil : Env → Out (List D) := fun ρ => .ok [] ρ true
def fCons (F : Env → Out D) (Fr : Env → Out (List D)) : Env → Out (List D) := fun ρ => (F ρ).bind fun a ρ1 => (Fr ρ1).bind fun as ρ2 => .ok (a :: as) ρ2 true
def tupD (ds : List D) : Res := if ds.length ≤ sizeLine then .val (.tup ds) else .no
def lstD (ds : List D) : Res := if ds.length ≤ sizeLine then .new ds else .no
section
variable {K : PySem.W.Frag} {B : By} {W : WX} {ta : TE} {t : TA} {Fa : Env → Out D} {F : Env → Out (List D)}
theorem sat_nil : Sat K B W (IsAR K) tNil fNil := fun b G H ω σ ρ rel Q post => Post.now rel post .nil
theorem sat_cons (ha : Sat K B W (IsR K) ta Fa) (hr : Sat K B W (IsAR K) t F) : Sat K B W (IsAR K) (tCons ta t) (fCons Fa F) :=
  Sat.bind (R' := IsAR K) (Fu := fun a ρ1 => (F ρ1).bind fun as ρ2 => .ok (a :: as) ρ2 true) (t := ta) (u := fun x σ H Q => t σ H fun xs H2 => Q (x :: xs) H2) ha fun b Hs ωs G H ω σ ρ rel x a i Q post => hr.at (R' := IsAR K) (Q := Q) (Fu := fun as ρ2 => .ok (a :: as) ρ2 true) rel post fun G1 H1 ω1 ρ1 xs as rel1 s j p => Post.now rel1 p (.cons (i.mono s.g) j)
theorem tup_v : CallV K (fun xs H Q => xs.length ≤ sizeLine ∧ ∀ p, H p = none → Q (.ref p) (upd H p (.tup xs))) tupD := by
  intro G H xs as le i Q post
  unfold tupD at post
  split at post
  · rename_i hz
    exact ⟨by rw [i.length]; exact hz, fun p hp => post _ (upd G p (.tup xs)) _ (Step.new le hp) (same_both le) (.tup (.inl upd_same) (i.mono (same_upd (same_none le hp))))⟩
  · exact post.elim
theorem lst_v : CallV K (fun xs H Q => xs.length ≤ sizeLine ∧ ∀ p, H p = none → Q (.ref p) (upd H p (.lst xs))) lstD := by
  intro G H xs as le i Q post
  unfold lstD at post
  split at post
  · rename_i hz
    exact ⟨by rw [i.length]; exact hz, fun p hp => post p xs hp i⟩
  · exact post.elim
end
section
variable {X : Cx} {B : By} {W : WX} {a c e : Expr} {es : List Expr} {ta tb te : TE} {t : TA} {Fa Fb Fe : Env → Out D} {F : Env → Out (List D)} {pos : Pos}
theorem da_nil : DA X B W [] tNil fNil := ⟨pa_nil, sat_nil⟩
theorem da_cons (h : DE X B W e te Fe) (hr : DA X B W es t F) (hs : starEach (e :: es) X.env = (false, eval e X.env) :: starEach es X.env := by rfl) : DA X B W (e :: es) (tCons te t) (fCons Fe F) := ⟨pa_cons h.pe hr.pa hs, sat_cons h.sat hr.sat⟩
theorem d_tup {x1} (h : DA X B W es t F) : DE X B W (.Tuple es x1 pos) (tTup t) (fCl tupD F) := ⟨pe_tup h.pa, sat_cl tup_v h.sat⟩
theorem d_lst (h : DA X B W es t F) : DE X B W (.List es pos) (tLst t) (fCl lstD F) := ⟨pe_lst h.pa, sat_cl lst_v h.sat⟩
theorem o_lst (h : DA X B W es t F) : DO X B W (.List es pos) (tLst t) (fClO lstD F) := ⟨pe_lst h.pa, sat_clO lst_v h.sat⟩
theorem d_op {op : Operator} {r : R2} {g : D → D → Res} (ho : OpR X (binaryOp op) r) (hv : OpV X.K r g) (ha : DE X B W a ta Fa) (hb : DE X B W c tb Fb) : DE X B W (.BinOp a op c pos) (tOp r ta tb) (fOp g Fa Fb) := ⟨pe_op ho ha.pe hb.pe, sat_op hv ha.sat hb.sat⟩
theorem o_op {op : Operator} {r : R2} {g : D → D → Res} (ho : OpR X (binaryOp op) r) (hv : OpV X.K r g) (ha : DE X B W a ta Fa) (hb : DE X B W c tb Fb) : DO X B W (.BinOp a op c pos) (tOp r ta tb) (fOpO g Fa Fb) := ⟨pe_op ho ha.pe hb.pe, sat_opO hv ha.sat hb.sat⟩
theorem d_un {op : UnaryOp} {r : V → Hp → VK → Prop} {g : D → Res} (ho : UnR X (unaryOp op) r) (hv : UnV X.K r g) (ha : DE X B W a ta Fa) : DE X B W (.UnaryOp op a pos) (tUn r ta) (fUn g Fa) := ⟨pe_un ho ha.pe, sat_un hv ha.sat⟩
theorem d_cmp {op : CmpOp} {r : R2} {g : D → D → Res} (ho : OpR X (compareOp op) r) (hv : OpV X.K r g) (ha : DE X B W a ta Fa) (hb : DE X B W c tb Fb) (hm : behindInMarks op c = false := by first | exact nomark _ (by decide) (by decide) | rfl) : DE X B W (.Compare a [op] [c] pos) (tOp r ta tb) (fOp g Fa Fb) := ⟨pe_cmpR ho ha.pe hb.pe hm, sat_op hv ha.sat hb.sat⟩
theorem d_ix {r : R2} {g : D → D → Res} (ho : IxR X r) (hv : OpV X.K r g) (ha : DE X B W a ta Fa) (hb : DE X B W c tb Fb) (hs : PlainIx c := by exact fun _ _ => rfl) : DE X B W (.Subscript a c pos) (tOp r ta tb) (fOp g Fa Fb) := ⟨pe_ix ho ha.pe hb.pe hs, sat_op hv ha.sat hb.sat⟩
theorem d_cb {id : String} {r : List V → Hp → VK → Prop} {g : List D → Res} {x : Str} {p : Pos} (hc : CallR X (.builtin id) r) (hw : CallV X.K r g) (hg : Gl X x) (hm : X.mg x = none) (hv : bootBuiltins x = some (.builtin id)) (ha : DA X B W (e :: es) t F) (hn : x ≠ "__name__" := by decide)
    (hdb : (x == ("__debug__" : Str)) = false := by decide) (he : starEach (e :: es) X.env = (false, eval e X.env) :: starEach es X.env := by rfl) (hpl : (backTo pos (starEach es X.env)).any (·.1) = false := by rfl) :
    DE X B W (.Call (.Name x p) (e :: es) [] pos) (tCB r t) (fCl g F) := ⟨pe_callB hc hg hm hv ha.pa hn hdb he hpl, sat_cl hw ha.sat⟩
theorem o_cb {id : String} {r : List V → Hp → VK → Prop} {g : List D → Res} {x : Str} {p : Pos} (hc : CallR X (.builtin id) r) (hw : CallV X.K r g) (hg : Gl X x) (hm : X.mg x = none) (hv : bootBuiltins x = some (.builtin id)) (ha : DA X B W (e :: es) t F) (hn : x ≠ "__name__" := by decide)
    (hdb : (x == ("__debug__" : Str)) = false := by decide) (he : starEach (e :: es) X.env = (false, eval e X.env) :: starEach es X.env := by rfl) (hpl : (backTo pos (starEach es X.env)).any (·.1) = false := by rfl) :
    DO X B W (.Call (.Name x p) (e :: es) [] pos) (tCB r t) (fClO g F) := ⟨pe_callB hc hg hm hv ha.pa hn hdb he hpl, sat_clO hw ha.sat⟩
end

/-! ### tests -/
def truD : D → Option Bool
  | .non => some false
  | .bl k => some k
  | .int i => some (i != 0)
  | .str x => if x.length ≤ sizeLine then some ((x.length : Int) != 0) else none
  | .tup xs => some (!xs.isEmpty)
  | .ro xs => some (!xs.isEmpty)
  | .lst _ xs => some (!xs.isEmpty)
  | _ => none
def liftB (o : Option Bool) (ρ : Env) : Out Bool := match o with
  | some k => .ok k ρ true
  | none => .no
def blD : D → Option Bool
  | .bl k => some k
  | _ => none
def fTru (F : Env → Out D) : Env → Out Bool := fun ρ => (F ρ).bind fun a ρ1 => liftB (truD a) ρ1
def fTst (F : Env → Out D) : Env → Out Bool := fun ρ => (F ρ).bind fun a ρ1 => liftB (blD a) ρ1
def fAnd (F G : Env → Out Bool) : Env → Out Bool := fun ρ => (F ρ).bind fun k ρ1 => if k = true then G ρ1 else .ok false ρ1 true
def fOr (F G : Env → Out Bool) : Env → Out Bool := fun ρ => (F ρ).bind fun k ρ1 => if k = true then .ok true ρ1 true else G ρ1
def fNot (F : Env → Out Bool) : Env → Out Bool := fun ρ => (F ρ).bind fun k ρ1 => .ok (!k) ρ1 true
def fAndV (F G : Env → Out D) : Env → Out D := fun ρ => (F ρ).bind fun a ρ1 => match blD a with
  | some k => if k = true then G ρ1 else .ok (.bl false) ρ1 true
  | none => .no
def fOrV (F G : Env → Out D) : Env → Out D := fun ρ => (F ρ).bind fun a ρ1 => match blD a with
  | some k => if k = true then .ok (.bl true) ρ1 true else G ρ1
  | none => .no
def fNotV (F : Env → Out D) : Env → Out D := fun ρ => (F ρ).bind fun a ρ1 => match blD a with
  | some k => .ok (.bl (!k)) ρ1 true
  | none => .no
def fIf {α : Type} (T : Env → Out Bool) (F G : Env → Out α) : Env → Out α := fun ρ => (T ρ).bind fun k ρ1 => if k = true then F ρ1 else G ρ1
section
variable {K : PySem.W.Frag} {B : By} {W : WX}
theorem is_empty {G : Hp} {xs : List V} {ds : List D} (h : IsAll K G xs ds) : (!xs.isEmpty) = !ds.isEmpty := by cases h <;> rfl
theorem tru_v {G H : Hp} {x : V} {d : D} {k : Bool} (le : Same G H) (i : Is K G x d) (h : truD d = some k) : TruV K x H k := by
  cases i with
  | non => cases h; exact rfl
  | bl b => cases h; exact rfl
  | int b => cases h; exact rfl
  | str b =>
    have h' : (if b.length ≤ sizeLine then some ((b.length : Int) != 0) else none) = some k := h
    split at h'
    · rename_i hz
      cases h'
      exact ⟨hz, rfl⟩
    · cases h'
  | tup hs ha => cases h; exact .inr (.inl ⟨_, sq_tup le hs, (is_empty ha).symm⟩)
  | ro hs ha => cases h; exact .inl ⟨_, le.seq hs, (is_empty ha).symm⟩
  | lst hs ha => cases h; exact .inl ⟨_, .inl (same_rd le hs), (is_empty ha).symm⟩
  | ty _ => cases h
  | ref _ => cases h
  | ob _ _ => cases h
theorem Post.b {b : Bs} {G H : Hp} {ω : Lb} {σ : L2.St} {ρ : Env} {o : Option Bool} {Q : Bool → Hp → Prop} (rel : Rel K b B G H ω σ ρ) (post : Post K B W b G H ω σ (EqR Bool) Q (liftB o ρ)) : ∃ k, o = some k ∧ Q k H := by
  cases o with
  | none => exact post.elim
  | some k => exact ⟨k, rfl, Post.now rel post rfl⟩
theorem sat_tru {t : TE} {F : Env → Out D} (h : Sat K B W (IsR K) t F) : Sat K B W (EqR Bool) (fun σ H Q => t σ H fun x H' => ∃ k, TruV K x H' k ∧ Q k H') (fTru F) :=
  Sat.bind (R' := EqR Bool) (Fu := fun a ρ1 => liftB (truD a) ρ1) (t := t) (u := fun x σ H Q => ∃ k, TruV K x H k ∧ Q k H) h fun b Hs ωs G H ω σ ρ rel x a i Q post => by
    obtain ⟨k, e, q⟩ := Post.b rel post
    exact ⟨k, tru_v rel.le i e, q⟩
theorem bl_v {G : Hp} {x : V} {d : D} {k : Bool} (i : Is K G x d) (h : blD d = some k) : x = .bl k := by
  cases i <;> first
    | (cases h; rfl)
    | cases h
theorem sat_tst {t : TE} {F : Env → Out D} (h : Sat K B W (IsR K) t F) : Sat K B W (EqR Bool) (tTest t) (fTst F) :=
  Sat.bind (R' := EqR Bool) (Fu := fun a ρ1 => liftB (blD a) ρ1) (t := t) (u := fun x σ H Q => ∃ k, x = .bl k ∧ Q k H) h fun b Hs ωs G H ω σ ρ rel x a i Q post => by
    obtain ⟨k, e, q⟩ := Post.b rel post
    exact ⟨k, bl_v i e, q⟩
theorem sat_and {t u : TT} {F G : Env → Out Bool} (h : Sat K B W (EqR Bool) t F) (h' : Sat K B W (EqR Bool) u G) : Sat K B W (EqR Bool) (tAnd t u) (fAnd F G) :=
  Sat.bind (R' := EqR Bool) (Fu := fun k ρ1 => if k = true then G ρ1 else .ok false ρ1 true) (t := t) (u := fun c σ H1 Q => if c = true then u σ H1 Q else Q false H1) h fun b Hs ωs G H ω σ ρ rel x a i Q post => by
    subst i
    cases x with
    | true => exact h' b G H ω σ ρ rel Q post
    | false => exact Post.now rel post rfl
theorem sat_or {t u : TT} {F G : Env → Out Bool} (h : Sat K B W (EqR Bool) t F) (h' : Sat K B W (EqR Bool) u G) : Sat K B W (EqR Bool) (tOr t u) (fOr F G) :=
  Sat.bind (R' := EqR Bool) (Fu := fun k ρ1 => if k = true then .ok true ρ1 true else G ρ1) (t := t) (u := fun c σ H1 Q => if c = true then Q true H1 else u σ H1 Q) h fun b Hs ωs G H ω σ ρ rel x a i Q post => by
    subst i
    cases x with
    | true => exact Post.now rel post rfl
    | false => exact h' b G H ω σ ρ rel Q post
theorem sat_not {t : TT} {F : Env → Out Bool} (h : Sat K B W (EqR Bool) t F) : Sat K B W (EqR Bool) (tNot t) (fNot F) :=
  Sat.bind (R' := EqR Bool) (Fu := fun k ρ1 => .ok (!k) ρ1 true) (t := t) (u := fun c σ H1 Q => Q (!c) H1) h fun b Hs ωs G H ω σ ρ rel x a i Q post => by
    subst i
    exact Post.now rel post rfl
theorem sat_andV {t u : TE} {F G : Env → Out D} (h : Sat K B W (IsR K) t F) (h' : Sat K B W (IsR K) u G) : Sat K B W (IsR K) (tAndV t u) (fAndV F G) :=
  Sat.bind (R' := IsR K) (Fu := fun a ρ1 => match blD a with | some k => if k = true then G ρ1 else .ok (.bl false) ρ1 true | none => .no) (t := t) (u := fun x σ H1 Q => ∃ c, x = .bl c ∧ if c = true then u σ H1 Q else Q (.bl false) H1) h fun b Hs ωs G H ω σ ρ rel x a i Q post => by
    cases e : blD a with
    | none => rw [e] at post; exact post.elim
    | some k =>
      rw [e] at post
      refine ⟨k, bl_v i e, ?_⟩
      cases k with
      | true => exact h' b G H ω σ ρ rel Q post
      | false => exact Post.now rel post (.bl false)
theorem sat_orV {t u : TE} {F G : Env → Out D} (h : Sat K B W (IsR K) t F) (h' : Sat K B W (IsR K) u G) : Sat K B W (IsR K) (tOrV t u) (fOrV F G) :=
  Sat.bind (R' := IsR K) (Fu := fun a ρ1 => match blD a with | some k => if k = true then .ok (.bl true) ρ1 true else G ρ1 | none => .no) (t := t) (u := fun x σ H1 Q => ∃ c, x = .bl c ∧ if c = true then Q (.bl true) H1 else u σ H1 Q) h fun b Hs ωs G H ω σ ρ rel x a i Q post => by
    cases e : blD a with
    | none => rw [e] at post; exact post.elim
    | some k =>
      rw [e] at post
      refine ⟨k, bl_v i e, ?_⟩
      cases k with
      | true => exact Post.now rel post (.bl true)
      | false => exact h' b G H ω σ ρ rel Q post
theorem sat_notV {t : TE} {F : Env → Out D} (h : Sat K B W (IsR K) t F) : Sat K B W (IsR K) (tNotV t) (fNotV F) :=
  Sat.bind (R' := IsR K) (Fu := fun a ρ1 => match blD a with | some k => .ok (.bl (!k)) ρ1 true | none => .no) (t := t) (u := fun x σ H1 Q => ∃ c, x = .bl c ∧ Q (.bl (!c)) H1) h fun b Hs ωs G H ω σ ρ rel x a i Q post => by
    cases e : blD a with
    | none => rw [e] at post; exact post.elim
    | some k =>
      rw [e] at post
      exact ⟨k, bl_v i e, Post.now rel post (.bl _)⟩
theorem sat_if {α β : Type} {R : Rep α β} [Back R] {c : TT} {t u : L2.St → Hp → (β → Hp → Prop) → Prop} {T : Env → Out Bool} {F G : Env → Out α} (hc : Sat K B W (EqR Bool) c T) (h : Sat K B W R t F) (h' : Sat K B W R u G) :
    Sat K B W R (fun σ H Q => c σ H fun k H1 => if k = true then t σ H1 Q else u σ H1 Q) (fIf T F G) :=
  Sat.bind (R' := R) (Fu := fun k ρ1 => if k = true then F ρ1 else G ρ1) (t := c) (u := fun k σ H1 Q => if k = true then t σ H1 Q else u σ H1 Q) hc fun b Hs ωs G H ω σ ρ rel x a i Q post => by
    subst i
    cases x with
    | true => exact h b G H ω σ ρ rel Q post
    | false => exact h' b G H ω σ ρ rel Q post
end
section
variable {X : Cx} {B : By} {W : WX} {a c e : Expr} {es rest : List Expr} {ta tb te : TE} {t u : TT} {Fa Fb Fe : Env → Out D} {F G : Env → Out Bool} {pos : Pos}
/-- an expression whose test is its value's truth -/
theorem t_tru (h : DE X B W a ta Fa) (he : ∀ whole, isTrue a X.env whole = (do let v ← whole; standAt a.pos; holding [v] (truthy v)) := by exact fun _ => rfl) : DT X B W a (fun σ H Q => ta σ H fun x H' => ∃ k, TruV X.K x H' k ∧ Q k H') (fTru Fa) := ⟨pt_truth h.pe he, sat_tru h.sat⟩
theorem t_cmp {op : CmpOp} {r : R2} {g : D → D → Res} (ho : OpR X (compareOp op) r) (hv : OpV X.K r g) (ha : DE X B W a ta Fa) (hb : DE X B W c tb Fb) (hm : behindInMarks op c = false := by first | exact nomark _ (by decide) (by decide) | rfl) : DT X B W (.Compare a [op] [c] pos) (tTest (tOp r ta tb)) (fTst (fOp g Fa Fb)) := ⟨pt_cmpR ho ha.pe hb.pe hm, sat_tst (sat_op hv ha.sat hb.sat)⟩
theorem t_not (h : DT X B W a t F) : DT X B W (.UnaryOp .Not a pos) (tNot t) (fNot F) := ⟨pt_not h.pt, sat_not h.sat⟩
theorem w_and1 (h : DT X B W a t F) : DW X B W (.BoolOp .And [a] pos) t F := ⟨pw_and1 h.pt, h.sat⟩
theorem w_or1 (h : DT X B W a t F) : DW X B W (.BoolOp .Or [a] pos) t F := ⟨pw_or1 h.pt, h.sat⟩
theorem w_and (h : DT X B W a t F) (h' : DW X B W (.BoolOp .And (c :: rest) pos) u G) : DW X B W (.BoolOp .And (a :: c :: rest) pos) (tAnd t u) (fAnd F G) := ⟨pw_and h.pt h'.pw, sat_and h.sat h'.sat⟩
theorem w_or (h : DT X B W a t F) (h' : DW X B W (.BoolOp .Or (c :: rest) pos) u G) : DW X B W (.BoolOp .Or (a :: c :: rest) pos) (tOr t u) (fOr F G) := ⟨pw_or h.pt h'.pw, sat_or h.sat h'.sat⟩
theorem t_w (h : DW X B W a t F) : DT X B W a t F := ⟨h.pw.pt, h.sat⟩
theorem d_one {op} (h : DE X B W a ta Fa) : DE X B W (.BoolOp op [a] pos) ta Fa := ⟨pe_one h.pe, h.sat⟩
theorem d_and (h : DE X B W a ta Fa) (h' : DE X B W (.BoolOp .And (c :: rest) pos) tb Fb) : DE X B W (.BoolOp .And (a :: c :: rest) pos) (tAndV ta tb) (fAndV Fa Fb) := ⟨pe_and h.pe h'.pe, sat_andV h.sat h'.sat⟩
theorem d_or (h : DE X B W a ta Fa) (h' : DE X B W (.BoolOp .Or (c :: rest) pos) tb Fb) : DE X B W (.BoolOp .Or (a :: c :: rest) pos) (tOrV ta tb) (fOrV Fa Fb) := ⟨pe_or h.pe h'.pe, sat_orV h.sat h'.sat⟩
theorem d_not (h : DE X B W a ta Fa) : DE X B W (.UnaryOp .Not a pos) (tNotV ta) (fNotV Fa) := ⟨pe_not h.pe, sat_notV h.sat⟩
theorem d_if (hc : DT X B W e t F) (h : DE X B W a ta Fa) (h' : DE X B W c tb Fb) : DE X B W (.IfExp e a c pos) (tIf t ta tb) (fIf F Fa Fb) := ⟨pe_ifExp hc.pt h.pe h'.pe, sat_if hc.sat h.sat h'.sat⟩
theorem o_if (hc : DT X B W e t F) (h : DO X B W a ta Fa) (h' : DO X B W c tb Fb) : DO X B W (.IfExp e a c pos) (tIf t ta tb) (fIf F Fa Fb) := ⟨pe_ifExp hc.pt h.pe h'.pe, sat_if hc.sat h.sat h'.sat⟩
end
end DL
set_option Elab.async false
set_option linter.all false
set_option maxRecDepth 100000
set_option maxHeartbeats 1000000
namespace DL
open PySem PySem.Spec PyProof.Rows L2

instance (a b : Int) : Decidable (IntMulOk a b) := by unfold IntMulOk; infer_instance
/-! ### what operators give -/
def addD : D → D → Res
  | .int a, .int b => .val (.int (a + b))
  | .str a, .str b => if a.length + b.length ≤ sizeLine then .val (.str (a ++ b)) else .no
  | .tup a, .tup b => if a.isEmpty = false ∧ a.length + b.length ≤ sizeLine then .val (.tup (a ++ b)) else .no
  | .lst _ a, .lst _ b => if a.length + b.length ≤ sizeLine then .new (a ++ b) else .no
  | _, _ => .no
def subD : D → D → Res
  | .int a, .int b => .val (.int (a - b))
  | _, _ => .no
def mulD : D → D → Res
  | .int a, .int b => if IntMulOk a b then .val (.int (a * b)) else .no
  | _, _ => .no
def fdivD : D → D → Res
  | .int a, .int b => if 0 < b ∧ b.natAbs.log2 < 9000 then .val (.int (a / b)) else .no
  | _, _ => .no
def modD : D → D → Res
  | .int a, .int b => if 0 < b then .val (.int (a % b)) else .no
  | _, _ => .no
def powD : D → D → Res
  | .int a, .int b => if 0 ≤ b ∧ b ≤ 1000000 ∧ a.natAbs < 2 ^ 64 then .val (.int (a ^ b.toNat)) else .no
  | _, _ => .no
def negD : D → Res
  | .int a => .val (.int (-a))
  | _ => .no
def ltD : D → D → Res
  | .int a, .int b => .val (.bl (decide (a < b)))
  | .str a, .str b => .val (.bl (decide (a.cps.toList < b.cps.toList)))
  | _, _ => .no
def leD : D → D → Res
  | .int a, .int b => .val (.bl (decide (a ≤ b)))
  | _, _ => .no
def gtD : D → D → Res
  | .int a, .int b => .val (.bl (decide (b < a)))
  | _, _ => .no
def geD : D → D → Res
  | .int a, .int b => .val (.bl (decide (b ≤ a)))
  | _, _ => .no
def isNonD : D → Bool
  | .non => true
  | _ => false
def isD : D → D → Res
  | d, .non => .val (.bl (isNonD d))
  | .bl a, .bl b => .val (.bl (decide (a = b)))
  | _, _ => .no
def isntD : D → D → Res
  | d, .non => .val (.bl (!isNonD d))
  | .bl a, .bl b => .val (.bl (!decide (a = b)))
  | _, _ => .no
mutual
def toPy : D → Option PyData
  | .non => some .none
  | .bl b => some (.bool b)
  | .int i => some (.int i)
  | .str x => some (.str x)
  | .tup ds => (toPys ds).map .tuple
  | .lst _ ds => (toPys ds).map .list
  | .ro ds => (toPys ds).map .list
  | .ty _ => none
  | .ref _ => none
  | .ob _ _ _ => none
  | .dct _ _ => none
def toPys : List D → Option (List PyData)
  | [] => some []
  | d :: ds => match toPy d, toPys ds with
    | some p, some ps => some (p :: ps)
    | _, _ => none
end
def eqB (a b : D) : Option Bool := match toPy a, toPy b with
  | some p, some q => if SeqAt.shaped p = true ∧ SeqAt.shaped q = true then some (PyData.eqv p q) else none
  | _, _ => none
def eqD (a b : D) : Res := match eqB a b with
  | some k => .val (.bl k)
  | none => .no
def neD (a b : D) : Res := match eqB a b with
  | some k => .val (.bl (!k))
  | none => .no
/-- == among what is flat; nothing is told of the rest -/
def flatD : D → Bool
  | .non => true
  | .bl _ => true
  | .int _ => true
  | .str _ => true
  | _ => false
def eqF : D → D → Bool
  | .non, .non => true
  | .bl a, .bl b => a == b
  | .bl a, .int b => (if a then 1 else 0) == b
  | .int a, .bl b => a == (if b then 1 else 0)
  | .int a, .int b => a == b
  | .str a, .str b => a == b
  | _, _ => false
def inB (x : D) : D → Option Bool
  | .tup ds => if flatD x = true ∧ ds.all flatD = true then some (ds.any fun y => eqF y x) else none
  | .lst _ ds => if flatD x = true ∧ ds.all flatD = true then some (ds.any fun y => eqF y x) else (match toPy x, toPys ds with
    | some p, some ps => if SeqAt.shaped p = true ∧ SeqAt.shaped (.list ps) = true then some (ps.any fun z => PyData.eqv z p) else none
    | _, _ => none)
  | .str b => (match x with
    | .str a => some (!(Builtin.Str.occurrences b a 0 b.length 1).isEmpty)
    | _ => none)
  | _ => none
def inD (x y : D) : Res := match inB x y with
  | some k => .val (.bl k)
  | none => .no
def ninD (x y : D) : Res := match inB x y with
  | some k => .val (.bl (!k))
  | none => .no
def ixD : D → D → Res
  | .tup ds, .int i => (match atI ds i with
    | some d => .val d
    | none => .no)
  | .lst _ ds, .int i => (match atI ds i with
    | some d => .val d
    | none => .no)
  | .ro ds, .int i => (match atI ds i with
    | some d => .val d
    | none => .no)
  | .str z, .int i => if z.length ≤ sizeLine then (match atI z.cps.toList i with
    | some c => .val (.str ⟨#[c]⟩)
    | none => .no) else .no
  | _, _ => .no
def cutD (xs : List D) (lo hi : Option Int) : List D := (xs.drop (HT.sIx xs.length 0 lo)).take (HT.sIx xs.length xs.length hi - HT.sIx xs.length 0 lo)

section
variable {X : Cx} {K : PySem.W.Frag} {G H : Hp}
theorem rd_list {pins : List (Addr × Obj)} {s : Shared} {σ : L2.St} {a : Addr} {xs : List V} (I : Inv X pins σ H s) (h : Rd H a (.lst xs)) :
    xs.length ≤ sizeLine ∧ ∃ (its : List Value) (n : Nat), Vals xs its ∧ s.heap.get? a = some { cls := .type "list", data := .seq its.toArray n } := h.ok I.hok
/-- xs + ys of two lists that may be read -/
def rCatL : R2 := fun x y H Q => ∃ l b xs zs, x = .ref l ∧ y = .ref b ∧ Rd H l (.lst xs) ∧ Rd H b (.lst zs) ∧ xs.length + zs.length ≤ sizeLine ∧ ∀ p, H p = none → Q (.ref p) (upd H p (.lst (xs ++ zs)))
theorem op_catL : OpR X (binaryOp .Add) rCatL := by
  intro pins s σ H x y v u Q I rx ry h
  obtain ⟨l, b, xs, zs, rfl, rfl, hx, hy, hz, q⟩ := h
  cases rx
  cases ry
  obtain ⟨z1, its, n, r, e⟩ := rd_list I hx
  obtain ⟨z2, its2, n2, r2, e2⟩ := rd_list I hy
  have l1 := r.length
  have l2 := r2.length
  refine PySem.P.add_list e e2 ?_ (by rw [List.size_toArray, List.size_toArray]; omega)
  have ea : its.toArray ++ its2.toArray = (its ++ its2).toArray := by simp
  rw [ea]
  exact ⟨.ref _, _, I.lnew (t' := s.toks) (r.append r2) (by rw [List.length_append]; omega), rfl, q _ I.fresh⟩
def rAddA (K : PySem.W.Frag) : R2 := fun x y H Q => rI0 (fun i j => .int (i + j)) x y H Q ∨ ((∃ i j, x = .str i ∧ y = .str j ∧ i.length + j.length ≤ sizeLine ∧ Q (.str (i ++ j)) H) ∨ (rCatT K x y H Q ∨ rCatL x y H Q))
theorem op_addA : OpR X (binaryOp .Add) (rAddA X.K) := op_add.or (op_add_str.or (op_catT.or op_catL))
theorem isAll_ne {xs : List V} {ds : List D} (h : IsAll K G xs ds) (e : ds.isEmpty = false) : xs ≠ [] := by
  cases h with
  | nil => cases e
  | cons _ _ => simp
theorem add_v : OpV K (rAddA K) addD := by
  intro G H x y a c le ia ic Q post
  cases ia <;> cases ic <;> first
    | exact post.elim
    | exact .inl ⟨_, _, rfl, rfl, post.here le (.int _)⟩
    | skip
  · have p : PostR K G H Q (if _ then _ else _) := post
    split at p
    · rename_i hz
      exact .inr (.inl ⟨_, _, rfl, rfl, hz, p.here le (.str _)⟩)
    · exact p.elim
  · rename_i p1 xs ds hs ha p2 ys es hs2 hb
    have p : PostR K G H Q (if ds.isEmpty = false ∧ ds.length + es.length ≤ sizeLine then .val (.tup (ds ++ es)) else .no) := post
    split at p
    · rename_i hz
      refine .inr (.inr (.inl ⟨_, _, _, _, rfl, rfl, sq_tup le hs, sq_tup le hs2, isAll_ne ha hz.1, by rw [ha.length, hb.length]; exact hz.2, fun e => ?_, fun _ q hq => ?_⟩))
      · subst e
        cases hb
        rw [List.append_nil] at p
        exact p.here le (.tup hs ha)
      exact p _ (upd G q (.tup (xs ++ ys))) _ (Step.new le hq) (same_both le) (.tup (.inl upd_same) ((ha.append hb).mono (same_upd (same_none le hq))))
    · exact p.elim
  · rename_i p1 xs ds hs ha p2 ys es hs2 hb
    have p : PostR K G H Q (if ds.length + es.length ≤ sizeLine then .new (ds ++ es) else .no) := post
    split at p
    · rename_i hz
      exact .inr (.inr (.inr ⟨_, _, _, _, rfl, rfl, same_rd le hs, same_rd le hs2, by rw [ha.length, hb.length]; exact hz, fun q hq => p q _ hq (ha.append hb)⟩))
    · exact p.elim
theorem sub_v : OpV K (rI0 fun i j => .int (i - j)) subD := by
  intro G H x y a c le ia ic Q post
  cases ia <;> cases ic <;> first
    | exact post.elim
    | exact ⟨_, _, rfl, rfl, post.here le (.int _)⟩
theorem op_mulA : OpR X (binaryOp .Mult) (rI IntMulOk fun i j => .int (i * j)) := opI fun _ _ _ _ _ _ _ hc q => mul_int q hc
theorem mul_v : OpV K (rI IntMulOk fun i j => .int (i * j)) mulD := by
  intro G H x y a c le ia ic Q post
  cases ia <;> cases ic <;> first
    | exact post.elim
    | skip
  have p : PostR K G H Q (if _ then _ else _) := post
  split at p
  · rename_i hz
    exact ⟨_, _, rfl, rfl, hz, p.here le (.int _)⟩
  · exact p.elim
theorem fdiv_v : OpV K (rI CDivW fun i j => .int (i / j)) fdivD := by
  intro G H x y a c le ia ic Q post
  cases ia <;> cases ic <;> first
    | exact post.elim
    | skip
  have p : PostR K G H Q (if _ then _ else _) := post
  split at p
  · rename_i hz
    exact ⟨_, _, rfl, rfl, hz, p.here le (.int _)⟩
  · exact p.elim
theorem mod_v : OpV K (rI (fun _ j => 0 < j) fun i j => .int (i % j)) modD := by
  intro G H x y a c le ia ic Q post
  cases ia <;> cases ic <;> first
    | exact post.elim
    | skip
  have p : PostR K G H Q (if _ then _ else _) := post
  split at p
  · rename_i hz
    exact ⟨_, _, rfl, rfl, hz, p.here le (.int _)⟩
  · exact p.elim
theorem pow_v : OpV K (rI CPow fun i j => .int (i ^ j.toNat)) powD := by
  intro G H x y a c le ia ic Q post
  cases ia <;> cases ic <;> first
    | exact post.elim
    | skip
  have p : PostR K G H Q (if _ then _ else _) := post
  split at p
  · rename_i hz
    exact ⟨_, _, rfl, rfl, hz, p.here le (.int _)⟩
  · exact p.elim
theorem neg_v : UnV K (rU fun i => .int (-i)) negD := by
  intro G H x a le ia Q post
  cases ia <;> first
    | exact post.elim
    | exact ⟨_, rfl, post.here le (.int _)⟩
def rLtA : R2 := fun x y H Q => rI0 (fun i j => .bl (decide (i < j))) x y H Q ∨ ∃ i j, x = .str i ∧ y = .str j ∧ Q (.bl (decide (i.cps.toList < j.cps.toList))) H
theorem op_ltA : OpR X (compareOp .Lt) rLtA := op_lt.or op_lt_str
theorem lt_v : OpV K rLtA ltD := by
  intro G H x y a c le ia ic Q post
  cases ia <;> cases ic <;> first
    | exact post.elim
    | exact .inl ⟨_, _, rfl, rfl, post.here le (.bl _)⟩
    | exact .inr ⟨_, _, rfl, rfl, post.here le (.bl _)⟩
theorem le_v : OpV K (rI0 fun i j => .bl (decide (i ≤ j))) leD := by
  intro G H x y a c le ia ic Q post
  cases ia <;> cases ic <;> first
    | exact post.elim
    | exact ⟨_, _, rfl, rfl, post.here le (.bl _)⟩
theorem gt_v : OpV K (rI0 fun i j => .bl (decide (j < i))) gtD := by
  intro G H x y a c le ia ic Q post
  cases ia <;> cases ic <;> first
    | exact post.elim
    | exact ⟨_, _, rfl, rfl, post.here le (.bl _)⟩
theorem ge_v : OpV K (rI0 fun i j => .bl (decide (j ≤ i))) geD := by
  intro G H x y a c le ia ic Q post
  cases ia <;> cases ic <;> first
    | exact post.elim
    | exact ⟨_, _, rfl, rfl, post.here le (.bl _)⟩
def rIsA : R2 := fun x y H Q => (y = .non ∧ Q (.bl (decide (x = .non))) H) ∨ rIsB x y H Q
theorem op_isA : OpR X (compareOp .Is) rIsA := op_isN.or op_isBl
def rIsntA : R2 := fun x y H Q => (y = .non ∧ Q (.bl (!decide (x = .non))) H) ∨ rNotB x y H Q
theorem op_isntA : OpR X (compareOp .IsNot) rIsntA := op_notN.or op_notBl
theorem is_non {x : V} {d : D} (i : Is K G x d) : decide (x = .non) = isNonD d := by
  cases i <;> first
    | exact decide_eq_true rfl
    | exact decide_eq_false (fun z => nomatch z)
theorem is_v : OpV K rIsA isD := by
  intro G H x y a c le ia ic Q post
  cases ic with
  | non => exact .inl ⟨rfl, by rw [is_non ia]; exact PostR.here (K := K) (G := G) (d := .bl (isNonD a)) (by cases a <;> exact post) le (.bl _)⟩
  | bl b => cases ia <;> first
    | exact post.elim
    | exact .inr ⟨_, _, rfl, rfl, post.here le (.bl _)⟩
  | _ => cases ia <;> exact post.elim
theorem isnt_v : OpV K rIsntA isntD := by
  intro G H x y a c le ia ic Q post
  cases ic with
  | non => exact .inl ⟨rfl, by rw [is_non ia]; exact PostR.here (K := K) (G := G) (d := .bl (!isNonD a)) (by cases a <;> exact post) le (.bl _)⟩
  | bl b => cases ia <;> first
    | exact post.elim
    | exact .inr ⟨_, _, rfl, rfl, post.here le (.bl _)⟩
  | _ => cases ia <;> exact post.elim
mutual
theorem dp_of (le : Same G H) : ∀ {v : V} {d : D} {p : PyData}, Is K G v d → toPy d = some p → Dp K H v p
  | _, _, _, .non, e => by simp only [toPy, Option.some.injEq] at e; subst e; exact .non
  | _, _, _, .bl b, e => by simp only [toPy, Option.some.injEq] at e; subst e; exact .bl b
  | _, _, _, .int b, e => by simp only [toPy, Option.some.injEq] at e; subst e; exact .int b
  | _, _, _, .str b, e => by simp only [toPy, Option.some.injEq] at e; subst e; exact .str b
  | _, _, _, .ty _, e => by simp [toPy] at e
  | _, _, _, .ref _, e => by simp [toPy] at e
  | _, _, _, .ob _ _, e => by simp [toPy] at e
  | _, _, _, .tup (ds := ds) h r, e => by
    simp only [toPy] at e
    cases q : toPys ds with
    | none => rw [q] at e; cases e
    | some ps => rw [q] at e; cases e; exact .tup (sq_tup le h) (dps_of le r q)
  | _, _, _, .lst (ds := ds) h r, e => by
    simp only [toPy] at e
    cases q : toPys ds with
    | none => rw [q] at e; cases e
    | some ps => rw [q] at e; cases e; exact .lst (.inl (same_rd le h)) (dps_of le r q)
  | _, _, _, .ro (ds := ds) h r, e => by
    simp only [toPy] at e
    cases q : toPys ds with
    | none => rw [q] at e; cases e
    | some ps => rw [q] at e; cases e; exact .lst (le.seq h) (dps_of le r q)
theorem dps_of (le : Same G H) : ∀ {vs : List V} {ds : List D} {ps : List PyData}, IsAll K G vs ds → toPys ds = some ps → DpAll K H vs ps
  | _, _, _, .nil, e => by simp only [toPys, Option.some.injEq] at e; subst e; exact .nil
  | _, _, _, .cons (d := d) (ds := ds) h r, e => by
    simp only [toPys] at e
    cases q : toPy d with
    | none => rw [q] at e; cases e
    | some p =>
      cases q2 : toPys ds with
      | none => rw [q, q2] at e; cases e
      | some ps => rw [q, q2] at e; cases e; exact .cons (dp_of le h q) (dps_of le r q2)
end
theorem eqB_some {a c : D} {k : Bool} (h : eqB a c = some k) : ∃ p q, toPy a = some p ∧ toPy c = some q ∧ SeqAt.shaped p = true ∧ SeqAt.shaped q = true ∧ k = PyData.eqv p q := by
  unfold eqB at h
  cases e : toPy a with
  | none => rw [e] at h; cases h
  | some p =>
    cases e2 : toPy c with
    | none => rw [e, e2] at h; cases h
    | some q =>
      rw [e, e2] at h
      dsimp only at h
      split at h
      · rename_i hz
        cases h
        exact ⟨p, q, rfl, rfl, hz.1, hz.2, rfl⟩
      · cases h
theorem eq_v : OpV K (rEqD K) eqD := by
  intro G H x y a c le ia ic Q post
  unfold eqD at post
  cases e : eqB a c with
  | none => rw [e] at post; exact post.elim
  | some k =>
    rw [e] at post
    obtain ⟨p, q, h1, h2, s1, s2, rfl⟩ := eqB_some e
    exact ⟨p, q, dp_of le ia h1, dp_of le ic h2, s1, s2, post.here le (.bl _)⟩
theorem ne_v : OpV K (rNeD K) neD := by
  intro G H x y a c le ia ic Q post
  unfold neD at post
  cases e : eqB a c with
  | none => rw [e] at post; exact post.elim
  | some k =>
    rw [e] at post
    obtain ⟨p, q, h1, h2, s1, s2, rfl⟩ := eqB_some e
    exact ⟨p, q, dp_of le ia h1, dp_of le ic h2, s1, s2, post.here le (.bl _)⟩
theorem flat_v {x : V} {d : D} (i : Is K G x d) (h : flatD d = true) : flatV x = true := by
  cases i <;> first
    | rfl
    | cases h
theorem flats_v : ∀ {xs : List V} {ds : List D}, IsAll K G xs ds → ds.all flatD = true → xs.all flatV = true
  | _, _, .nil, _ => rfl
  | _, _, .cons h r, e => by
    rw [List.all_cons, Bool.and_eq_true] at e ⊢
    exact ⟨flat_v h e.1, flats_v r e.2⟩
theorem eqF_v {x y : V} {d e : D} (i : Is K G x d) (j : Is K G y e) (h : flatD d = true) (h' : flatD e = true) : eqV x y = eqF d e := by
  cases i <;> cases j <;> first
    | rfl
    | cases h
    | cases h'
theorem anyF_v {x : V} {d : D} (i : Is K G x d) (h : flatD d = true) : ∀ {xs : List V} {ds : List D}, IsAll K G xs ds → ds.all flatD = true → inV x xs = ds.any fun y => eqF y d
  | _, _, .nil, _ => rfl
  | _, _, .cons j r, e => by
    rw [List.all_cons, Bool.and_eq_true] at e
    unfold inV
    rw [List.any_cons, List.any_cons, eqF_v j i e.1 h]
    exact congrArg _ (anyF_v i h r e.2)
def rInA (K : PySem.W.Frag) : R2 := fun x y H Q => rIn K false x y H Q ∨ (rInD K x y H Q ∨ ∃ i j, x = .str i ∧ y = .str j ∧ Q (.bl (!(Builtin.Str.occurrences j i 0 j.length 1).isEmpty)) H)
theorem op_inA (hu : X.A.units + 65 < cLine) : OpR X (compareOp .In) (rInA X.K) := op_in_seq.or ((op_inD hu).or op_in_str)
def rNinA (K : PySem.W.Frag) : R2 := fun x y H Q => rIn K true x y H Q ∨ (rNotInD K x y H Q ∨ ∃ i j, x = .str i ∧ y = .str j ∧ Q (.bl (!(!(Builtin.Str.occurrences j i 0 j.length 1).isEmpty))) H)
theorem op_ninA (hu : X.A.units + 65 < cLine) : OpR X (compareOp .NotIn) (rNinA X.K) := op_notIn_seq.or ((op_notInD hu).or op_notin_str)
/-- what membership leans on -/
theorem in_cases {x y : V} {a c : D} {k : Bool} (le : Same G H) (ia : Is K G x a) (ic : Is K G y c) (h : inB a c = some k) :
    (∃ p xs, y = .ref p ∧ (SqL K H p xs ∨ SqT K H p xs) ∧ flatV x = true ∧ xs.all flatV = true ∧ k = inV x xs) ∨
    (∃ d ds, Dp K H x d ∧ Dp K H y (.list ds) ∧ SeqAt.shaped d = true ∧ SeqAt.shaped (.list ds) = true ∧ k = ds.any fun z => PyData.eqv z d) ∨
    (∃ i j, x = .str i ∧ y = .str j ∧ k = !(Builtin.Str.occurrences j i 0 j.length 1).isEmpty) := by
  cases ic with
  | tup hs ha =>
    unfold inB at h
    dsimp only at h
    split at h
    · rename_i hz
      cases h
      exact .inl ⟨_, _, rfl, .inr (sq_tup le hs), flat_v ia hz.1, flats_v ha hz.2, (anyF_v ia hz.1 ha hz.2).symm⟩
    · cases h
  | lst hs ha =>
    rename_i ds
    unfold inB at h
    dsimp only at h
    split at h
    · rename_i hz
      cases h
      exact .inl ⟨_, _, rfl, .inl (.inl (same_rd le hs)), flat_v ia hz.1, flats_v ha hz.2, (anyF_v ia hz.1 ha hz.2).symm⟩
    · cases e : toPy a with
      | none => rw [e] at h; cases h
      | some p =>
        cases e2 : toPys ds with
        | none => rw [e, e2] at h; cases h
        | some ps =>
          rw [e, e2] at h
          dsimp only at h
          split at h
          · rename_i hz
            cases h
            exact .inr (.inl ⟨p, ps, dp_of le ia e, .lst (.inl (same_rd le hs)) (dps_of le ha e2), hz.1, hz.2, rfl⟩)
          · cases h
  | str b =>
    cases ia <;> first
      | (cases h; exact .inr (.inr ⟨_, _, rfl, rfl, rfl⟩))
      | cases h
  | _ => cases h
theorem in_v : OpV K (rInA K) inD := by
  intro G H x y a c le ia ic Q post
  unfold inD at post
  cases e : inB a c with
  | none => rw [e] at post; exact post.elim
  | some k =>
    rw [e] at post
    have q := post.here le (.bl k)
    rcases in_cases le ia ic e with ⟨p, xs, h1, h2, h3, h4, rfl⟩ | ⟨d, ds, h1, h2, h3, h4, rfl⟩ | ⟨i, j, h1, h2, rfl⟩
    · exact .inl ⟨p, xs, h1, h2, h3, h4, q⟩
    · exact .inr (.inl ⟨d, ds, h1, h2, h3, h4, q⟩)
    · exact .inr (.inr ⟨i, j, h1, h2, q⟩)
theorem nin_v : OpV K (rNinA K) ninD := by
  intro G H x y a c le ia ic Q post
  unfold ninD at post
  cases e : inB a c with
  | none => rw [e] at post; exact post.elim
  | some k =>
    rw [e] at post
    have q := post.here le (.bl (!k))
    rcases in_cases le ia ic e with ⟨p, xs, h1, h2, h3, h4, rfl⟩ | ⟨d, ds, h1, h2, h3, h4, rfl⟩ | ⟨i, j, h1, h2, rfl⟩
    · exact .inl ⟨p, xs, h1, h2, h3, h4, q⟩
    · exact .inr (.inl ⟨d, ds, h1, h2, h3, h4, q⟩)
    · exact .inr (.inr ⟨i, j, h1, h2, q⟩)
theorem at_v {xs : List V} {ds : List D} {i : Int} {d : D} (h : IsAll K G xs ds) (e : atI ds i = some d) : ∃ v, atI xs i = some v ∧ Is K G v d := by
  unfold atI at e ⊢
  rw [h.length]
  cases q : ixN ds.length i with
  | none => rw [q] at e; cases e
  | some j =>
    rw [q] at e
    exact h.get' (i := j) e
theorem ix_v : OpV K (rIx K) ixD := by
  intro G H x y a c le ia ic Q post
  cases ia with
  | tup hs ha =>
    cases ic <;> first
      | exact post.elim
      | skip
    rename_i p xs ds i
    have p : PostR K G H Q (match atI ds i with | some d => .val d | none => .no) := post
    cases e : atI ds i with
    | none => rw [e] at p; exact p.elim
    | some d =>
      rw [e] at p
      obtain ⟨v, h1, h2⟩ := at_v ha e
      exact .inr (.inl ⟨_, _, _, v, rfl, rfl, sq_tup le hs, h1, p.here le h2⟩)
  | lst hs ha =>
    cases ic <;> first
      | exact post.elim
      | skip
    rename_i p xs ds i
    have p : PostR K G H Q (match atI ds i with | some d => .val d | none => .no) := post
    cases e : atI ds i with
    | none => rw [e] at p; exact p.elim
    | some d =>
      rw [e] at p
      obtain ⟨v, h1, h2⟩ := at_v ha e
      exact .inl ⟨_, _, _, v, rfl, rfl, .inl (same_rd le hs), h1, p.here le h2⟩
  | ro hs ha =>
    cases ic <;> first
      | exact post.elim
      | skip
    rename_i p xs ds i
    have p : PostR K G H Q (match atI ds i with | some d => .val d | none => .no) := post
    cases e : atI ds i with
    | none => rw [e] at p; exact p.elim
    | some d =>
      rw [e] at p
      obtain ⟨v, h1, h2⟩ := at_v ha e
      exact .inl ⟨_, _, _, v, rfl, rfl, le.seq hs, h1, p.here le h2⟩
  | str z =>
    cases ic <;> first
      | exact post.elim
      | skip
    rename_i i
    have p : PostR K G H Q (if z.length ≤ sizeLine then (match atI z.cps.toList i with | some c => .val (.str ⟨#[c]⟩) | none => .no) else .no) := post
    split at p
    · rename_i hz
      cases e : atI z.cps.toList i with
      | none => rw [e] at p; exact p.elim
      | some d =>
        rw [e] at p
        exact .inr (.inr ⟨z, i, d, rfl, rfl, hz, e, p.here le (.str _)⟩)
    · exact p.elim
  | _ => cases ic <;> exact post.elim
end
end DL
set_option Elab.async false
set_option linter.all false
set_option maxRecDepth 100000
set_option maxHeartbeats 1000000
namespace DL
open PySem PySem.Spec PyProof.Rows L2

/-! ### statements -/
section
variable (K : PySem.W.Frag) (B : By) (W : WX)
def PostS (b : Bs) (G H : Hp) (ω : Lb) (Dn : Ends) : SOut → Prop
  | .nx ρ => ∀ σ' G' H' ω', Rel K b B G' H' ω' σ' ρ → Tr G H ω G' H' ω' → Dn.nx σ' H'
  | .rt d ρ => ∀ v σ' G' H' ω', Rel K b B G' H' ω' σ' ρ → Tr G H ω G' H' ω' → OwnR K b H ω G' H' ω' v d → Dn.rt v H'
  | .bk ρ => ∀ σ' G' H' ω', Rel K b B G' H' ω' σ' ρ → Tr G H ω G' H' ω' → Dn.bk σ' H'
  | .ct ρ => ∀ σ' G' H' ω', Rel K b B G' H' ω' σ' ρ → Tr G H ω G' H' ω' → Dn.ct σ' H'
  | .ex c ρ => ∀ cls dd σ' G' H' ω', Rel K b B G' H' ω' σ' ρ → Tr G H ω G' H' ω' → IsX K G' H' c cls dd → W cls dd σ' H'
  | .no => False
def SatS (t : TS) (F : Env → SOut) : Prop := ∀ b G H ω σ ρ, Rel K b B G H ω σ ρ → ∀ Dn, PostS K B W b G H ω Dn (F ρ) → t Dn σ H
end
section
variable (X : Cx) (B : By) (W : WX)
structure DS (st : Stmt) (t : TS) (F : Env → SOut) : Prop where
  ps : PS X st t
  sat : SatS X.K B W t F
structure DSs (st : List Stmt) (t : TS) (F : Env → SOut) : Prop where
  ps : PSs X st t
  sat : SatS X.K B W t F
end
def Out.s {α : Type} (o : Out α) (f : α → Env → SOut) : SOut := match o with
  | .ok a ρ _ => f a ρ
  | .ex c ρ => .ex c ρ
  | .no => .no
def sNil : Env → SOut := fun ρ => .nx ρ
def sSeq (F G : Env → SOut) : Env → SOut := fun ρ => match F ρ with
  | .nx ρ' => G ρ'
  | o => o
def sRet (F : Env → Out D) : Env → SOut := fun ρ => (F ρ).s fun d ρ1 => .rt d ρ1
def sRetN : Env → SOut := fun ρ => .rt .non ρ
def sIf (T : Env → Out Bool) (F G : Env → SOut) : Env → SOut := fun ρ => (T ρ).s fun k ρ1 => if k = true then F ρ1 else G ρ1
def sDrop (F : Env → Out D) : Env → SOut := fun ρ => (F ρ).s fun _ ρ1 => .nx ρ1
def sNo : Env → SOut := fun _ => .no
def sBk : Env → SOut := fun ρ => .bk ρ
def sCt : Env → SOut := fun ρ => .ct ρ
section
variable {K : PySem.W.Frag} {B : By} {W : WX} {b : Bs} {G H : Hp} {ω : Lb} {σ : L2.St} {ρ : Env} {Dn : Ends}
/-- seen from further back -/
theorem PostS.from {G1 H1 : Hp} {ω1 : Lb} (s : Tr G H ω G1 H1 ω1) : ∀ {o : SOut}, PostS K B W b G H ω Dn o → PostS K B W b G1 H1 ω1 Dn o
  | .nx ρ, h => fun σ' G' H' ω' r t => h σ' G' H' ω' r (s.trans t)
  | .rt d ρ, h => fun v σ' G' H' ω' r t o => h v σ' G' H' ω' r (s.trans t) (Back.back s o)
  | .bk ρ, h => fun σ' G' H' ω' r t => h σ' G' H' ω' r (s.trans t)
  | .ct ρ, h => fun σ' G' H' ω' r t => h σ' G' H' ω' r (s.trans t)
  | .ex c ρ, h => fun cls dd σ' G' H' ω' r t i => h cls dd σ' G' H' ω' r (s.trans t) i
  | .no, h => h
/-- an expression within a statement -/
theorem Sat.s {α β : Type} {R : Rep α β} {t : L2.St → Hp → (β → Hp → Prop) → Prop} {F : Env → Out α} {f : α → Env → SOut} {Q : β → Hp → Prop} (h : Sat K B W R t F) (rel : Rel K b B G H ω σ ρ) (post : PostS K B W b G H ω Dn ((F ρ).s f))
    (hq : ∀ G' H' ω' ρ' x a, Rel K b B G' H' ω' σ ρ' → Tr G H ω G' H' ω' → R b H ω G' H' ω' x a → PostS K B W b G H ω Dn (f a ρ') → Q x H') : t σ H Q := by
  refine h b G H ω σ ρ rel Q ?_
  unfold Out.s at post
  cases e : F ρ with
  | no => rw [e] at post; exact post
  | ex c ρ1 => rw [e] at post; exact fun cls dd G' H' ω' r s i => post cls dd σ G' H' ω' r s i
  | ok a ρ1 q => rw [e] at post; exact fun x G' H' ω' r s _ i => hq G' H' ω' ρ1 x a r s i post
theorem ss_nil : SatS K B W tNext sNil := fun b G H ω σ ρ rel Dn post => post σ G H ω rel .refl
theorem ss_seq {t u : TS} {F F' : Env → SOut} (h : SatS K B W t F) (h' : SatS K B W u F') : SatS K B W (tSeq t u) (sSeq F F') := by
  intro b G H ω σ ρ rel Dn post
  refine h b G H ω σ ρ rel _ ?_
  unfold sSeq at post
  cases e : F ρ with
  | nx ρ1 => rw [e] at post; exact fun σ' G' H' ω' r s => h' b G' H' ω' σ' ρ1 r Dn (PostS.from s post)
  | rt d ρ1 => rw [e] at post; exact post
  | bk ρ1 => rw [e] at post; exact post
  | ct ρ1 => rw [e] at post; exact post
  | ex c ρ1 => rw [e] at post; exact post
  | no => rw [e] at post; exact post
theorem ss_ret {t : TE} {F : Env → Out D} (h : Sat K B W (OwnR K) t F) : SatS K B W (tRet t) (sRet F) := fun b G H ω σ ρ rel Dn post =>
  h.s rel post fun G' H' ω' ρ' x a r s i p => p x σ G' H' ω' r s i
theorem ss_retN : SatS K B W tRetN sRetN := fun b G H ω σ ρ rel Dn post => post .non σ G H ω rel .refl (own_frz .non)
theorem ss_if {c : TT} {t u : TS} {T : Env → Out Bool} {F F' : Env → SOut} (hc : Sat K B W (EqR Bool) c T) (h : SatS K B W t F) (h' : SatS K B W u F') : SatS K B W (tIfS c t u) (sIf T F F') := fun b G H ω σ ρ rel Dn post =>
  hc.s rel post fun G' H' ω' ρ' x a r s i p => by
    subst i
    cases x with
    | true => exact h b G' H' ω' σ ρ' r Dn (PostS.from s p)
    | false => exact h' b G' H' ω' σ ρ' r Dn (PostS.from s p)
theorem ss_drop {R : Rep D V} {t : TE} {F : Env → Out D} (h : Sat K B W R t F) : SatS K B W (tDrop t) (sDrop F) := fun b G H ω σ ρ rel Dn post =>
  h.s rel post fun G' H' ω' ρ' x a r s i p => p σ G' H' ω' r s
theorem ss_no {t : TS} : SatS K B W t sNo := fun _ _ _ _ _ _ _ _ post => post.elim
theorem ss_bk : SatS K B W tBreak sBk := fun b G H ω σ ρ rel Dn post => post σ G H ω rel .refl
theorem ss_ct : SatS K B W tCont sCt := fun b G H ω σ ρ rel Dn post => post σ G H ω rel .refl
end

/-! ### stores -/
section
variable (K : PySem.W.Frag) (B : By)
def PostG (b : Bs) (Gs Hs : Hp) (ωs : Lb) (Q : L2.St → Hp → Prop) : Option Env → Prop
  | some ρ => ∀ σ' G' H' ω', Rel K b B G' H' ω' σ' ρ → Tr Gs Hs ωs G' H' ω' → Q σ' H'
  | none => False
def SatG (g : TG) (F : D → Env → Option Env) : Prop := ∀ b Gs Hs ωs G H ω σ ρ, Rel K b B G H ω σ ρ → Tr Gs Hs ωs G H ω → ∀ v d, OwnR K b Hs ωs G H ω v d → ∀ Q, PostG K B b Gs Hs ωs Q (F d ρ) → g v σ H Q
def SatGs (g : TGs) (F : List D → Env → Option Env) : Prop := ∀ b Gs Hs ωs G H ω σ ρ, Rel K b B G H ω σ ρ → Tr Gs Hs ωs G H ω → ∀ vs ds, IsAll K G vs ds → ∀ Q, PostG K B b Gs Hs ωs Q (F ds ρ) → g vs σ H Q
end
structure DG (X : Cx) (B : By) (e : Expr) (g : TG) (F : D → Env → Option Env) : Prop where
  pg : PG X e g
  sat : SatG X.K B g F
structure DGs (X : Cx) (B : By) (es : List Expr) (g : TGs) (F : List D → Env → Option Env) : Prop where
  pgs : PGs X es g
  sat : SatGs X.K B g F
def gN (B : List Nat) (i : Nat) : D → Env → Option Env := fun d ρ => if i ∈ B then none else some (ρ.set i (some d))
def gT (n : Nat) (F : List D → Env → Option Env) : D → Env → Option Env := fun d ρ => match d with
  | .tup ds => if ds.length = n then F ds ρ else none
  | _ => none
def gsNil : List D → Env → Option Env := fun ds ρ => match ds with
  | [] => some ρ
  | _ => none
def gsCons (F : D → Env → Option Env) (Fr : List D → Env → Option Env) : List D → Env → Option Env := fun ds ρ => match ds with
  | d :: r => (match F d ρ with
    | some ρ1 => Fr r ρ1
    | none => none)
  | [] => none
def sOpt (o : Option Env) : SOut := match o with
  | some ρ => .nx ρ
  | none => .no
def sAsg (F : Env → Out D) (g : D → Env → Option Env) : Env → SOut := fun ρ => (F ρ).s fun d ρ1 => sOpt (g d ρ1)
section
variable {K : PySem.W.Frag} {B : By} {W : WX} {b : Bs} {G H Gs Hs : Hp} {ω ωs : Lb} {σ : L2.St} {ρ : Env}
/-- a value comes into slot i -/
theorem Rel.set (R : Rel K b B G H ω σ ρ) (t : Tr Gs Hs ωs G H ω) {i : Nat} (hi : i ∉ B.l) {v : V} {d : D} (o : OwnR K b Hs ωs G H ω v d) : ∃ ω', Rel K b B G H ω' (σ.set i (some v)) (ρ.set i (some d)) ∧ Tr Gs Hs ωs G H ω' := by
  obtain ⟨ωt, T, o⟩ := o
  refine ⟨fun a => match ωt a with | some (_, p) => some (i, p) | none => ω a, ?_, ?_⟩
  · have keep : ∀ {a : Addr} {l : Nat × Option Str}, ω a = some l → ωt a = none := fun {a l} q => by
      cases z : ωt a with
      | none => rfl
      | some m =>
        have y := (T.at' a (by rw [z]; simp)).1
        rw [q] at y; cases y
    refine ⟨R.le, R.leG, R.old, R.dom, R.fr, fun a l q => ?_, R.bB, by rw [List.length_set, List.length_set]; exact R.len, fun j e hj => ?_, fun j hj => ?_, R.pin⟩
    · cases z : ωt a with
      | none => simp only [z] at q; exact R.own a l q
      | some m =>
        obtain ⟨y1, y2, y3, y4, _⟩ := T.at' a (by rw [z]; simp)
        exact ⟨y2, y3, .inl y4⟩
    · rw [List.getElem?_set] at hj
      split at hj
      · rename_i c
        subst c
        split at hj
        · rename_i hl
          cases hj
          refine ⟨v, by rw [List.getElem?_set]; simp [R.len, hl], o.go (Same.refl _) fun a p q => ⟨by simp only [q], rfl⟩⟩
        · cases hj
      · rename_i c
        obtain ⟨u, h1, h2⟩ := R.slot j e hj
        exact ⟨u, by rw [List.getElem?_set_ne c]; exact h1, h2.go (Same.refl _) fun a p q => ⟨by simp only [keep q]; exact q, rfl⟩⟩
    · have c : i ≠ j := fun z => hi (by rw [z]; exact hj)
      rw [List.getElem?_set_ne c]
      exact R.byr j hj
  · refine ⟨t.g, fun a u h e => ?_, t.hid, t.dom⟩
    obtain ⟨k1, k2⟩ := t.keep a u h e
    refine ⟨k1, ?_⟩
    cases z : ωt a with
    | none => simp only [k2]
    | some m =>
      rcases (T.at' a (by rw [z]; simp)).2.2.2.2 with y | y
      · rw [e] at y; cases y
      · exact absurd h y
theorem sg_name {i : Nat} : SatG K B (gName i) (gN B.l i) := by
  intro b Gs Hs ωs G H ω σ ρ rel t v d o Q post
  unfold gN at post
  by_cases c : i ∈ B.l
  · rw [if_pos c] at post; exact post.elim
  · rw [if_neg c] at post
    obtain ⟨ω', r, t'⟩ := rel.set t c o
    exact post _ G H ω' r t'
theorem sg_tup {n : Nat} {g : TGs} {F : List D → Env → Option Env} (h : SatGs K B g F) : SatG K B (gTup K n g) (gT n F) := by
  intro b Gs Hs ωs G H ω σ ρ rel t v d o Q post
  cases d with
  | tup ds =>
    have p : PostG K B b Gs Hs ωs Q (if ds.length = n then F ds ρ else none) := post
    split at p
    · rename_i hz
      cases own_un o rfl with
      | tup hs ha => exact ⟨_, _, rfl, sq_tup rel.le hs, by rw [ha.length]; exact hz, h b Gs Hs ωs G H ω σ ρ rel t _ _ ha Q p⟩
    · exact p.elim
  | _ => exact post.elim
theorem sgs_nil : SatGs K B gNil gsNil := by
  intro b Gs Hs ωs G H ω σ ρ rel t vs ds i Q post
  cases i with
  | nil => exact ⟨rfl, post σ G H ω rel t⟩
  | cons _ _ => exact post.elim
theorem sgs_cons {g : TG} {gs : TGs} {F : D → Env → Option Env} {Fr : List D → Env → Option Env} (h : SatG K B g F) (h' : SatGs K B gs Fr) : SatGs K B (gCons g gs) (gsCons F Fr) := by
  intro b Gs Hs ωs G H ω σ ρ rel t vs ds i Q post
  cases i with
  | nil => exact post.elim
  | cons i r =>
    rename_i v vs d ds
    -- a store may freeze nothing: the rest's data are followed from here
    have p : PostG K B b Gs Hs ωs Q (match F d ρ with | some ρ1 => Fr ds ρ1 | none => none) := post
    cases e : F d ρ with
    | none => rw [e] at p; exact p.elim
    | some ρ1 =>
      rw [e] at p
      dsimp only at p
      refine ⟨v, vs, rfl, h b G H ω G H ω σ ρ rel .refl v d (own_frz i) _ ?_⟩
      rw [e]
      intro σ' G' H' ω' rel' s
      exact h' b Gs Hs ωs G' H' ω' σ' ρ1 rel' (t.trans s) vs ds (r.mono s.g) Q p
theorem ss_asg {t : TE} {F : Env → Out D} {g : TG} {Fg : D → Env → Option Env} (h : Sat K B W (OwnR K) t F) (hg : SatG K B g Fg) : SatS K B W (tAsg t g) (sAsg F Fg) := fun b G H ω σ ρ rel Dn post =>
  h.s rel post fun G' H' ω' ρ' x a r s i p => by
    refine hg b G H ω G' H' ω' σ ρ' r s x a i _ ?_
    cases e : Fg a ρ' with
    | none => rw [e] at p; exact p.elim
    | some ρ2 => rw [e] at p; exact fun σ2 G2 H2 ω2 r2 s2 => p σ2 G2 H2 ω2 r2 s2
/-- a node of slot j is changed -/
theorem Rel.upd (R : Rel K b B G H ω σ ρ) {j : Nat} {a : Addr} {p : Option Str} {o : HO} {v : V} {d : D} (ha : ω a = some (j, p)) (hv : σ[j]? = some (some v)) (h : Own K G (L2.upd H a o) ω j v d) :
    Rel K b B G (L2.upd H a o) ω σ (ρ.set j (some d)) := by
  obtain ⟨g1, g2, g3⟩ := R.own a _ ha
  refine ⟨fun x u e => ?_, R.leG, fun x u h1 h2 => ?_, fun x e => ?_, R.fr, fun x l q => ?_, R.bB, by rw [List.length_set]; exact R.len, fun i e hi => ?_, R.byr, R.pin⟩
  · rw [upd_ne (fun z => by rw [z, g1] at e; cases e)]
    exact R.le x u e
  · rw [upd_ne (fun z => ?_)]
    · exact R.old x u h1 h2
    · subst z
      rcases g3 with g3 | ⟨p', g3⟩
      · rw [g3] at h2; cases h2
      · rw [g3] at h1; cases h1
  · refine R.dom x ?_
    by_cases c : x = a
    · subst c; rw [upd_same] at e; cases e
    · rw [upd_ne c] at e; exact e
  · obtain ⟨y1, y2, y3⟩ := R.own x l q
    refine ⟨y1, ?_, y3⟩
    by_cases c : x = a
    · subst c; rw [upd_same]; simp
    · rw [upd_ne c]; exact y2
  · rw [List.getElem?_set] at hi
    split at hi
    · rename_i c
      subst c
      split at hi
      · cases hi; exact ⟨v, hv, h⟩
      · cases hi
    · rename_i c
      obtain ⟨u, h1, h2⟩ := R.slot i e hi
      exact ⟨u, h1, h2.go (Same.refl _) fun x p' q => ⟨q, upd_ne (fun z => by rw [z, ha] at q; injection q with q; injection q with q1 q2; exact c q1)⟩⟩
theorem tr_upd {a : Addr} {l : Nat × Option Str} {o : HO} (h : ω a = some l) : Tr G H ω G (L2.upd H a o) ω where
  g := Same.refl _
  keep := fun x u q e => ⟨by rw [upd_ne (fun z => by rw [z, h] at q; cases q)]; exact e, q⟩
  hid := fun _ _ _ g => g
  dom := fun x e => by
    by_cases c : x = a
    · subst c; rw [upd_same] at e; cases e
    · rw [upd_ne c] at e; exact e
/-- an owned list in a slot -/
theorem Rel.lst (R : Rel K b B G H ω σ ρ) {j : Nat} {ds : List D} (h : ρ[j]? = some (some (.lst true ds))) : ∃ a xs, σ[j]? = some (some (.ref a)) ∧ ω a = some (j, none) ∧ H a = some (.lst xs) ∧ IsAll K G xs ds := by
  obtain ⟨v, h1, h2⟩ := R.slot j _ h
  cases h2 with
  | one h2 =>
    cases h2 with
    | frz i => cases i
    | lst y1 y2 y3 => exact ⟨_, _, h1, y1, y2, y3⟩
end

/-! ### xs[i] = e, xs.append(e), xs.pop() of an owned list in a slot -/
def isL (ρ : Env) (j : Nat) : Bool := match ρ[j]? with
  | some (some (.lst true _)) => true
  | _ => false
def sSetIx (j : Nat) (Fe Fi : Env → Out D) : Env → SOut := fun ρ => (Fe ρ).s fun d ρ1 => if isL ρ1 j = true then (Fi ρ1).s fun i ρ2 => (match ρ2[j]?, i with
  | some (some (.lst true ds)), .int k => (match ixN ds.length k with
    | some m => .nx (ρ2.set j (some (.lst true (ds.set m d))))
    | none => .no)
  | _, _ => .no) else .no
def fApp (j : Nat) (Fe : Env → Out D) : Env → Out D := fun ρ => if isL ρ j = true then (Fe ρ).bind fun d ρ1 => (match ρ1[j]? with
  | some (some (.lst true ds)) => if ds.length < sizeLine then .ok .non (ρ1.set j (some (.lst true (ds ++ [d])))) false else .no
  | _ => .no) else .no
def fPop (j : Nat) : Env → Out D := fun ρ => match ρ[j]? with
  | some (some (.lst true ds)) => (match ds.getLast? with
    | some d => .ok d (ρ.set j (some (.lst true ds.dropLast))) false
    | none => .no)
  | _ => .no
section
variable {K : PySem.W.Frag} {B : By} {W : WX}
theorem isL_of {b : Bs} {G H : Hp} {ω : Lb} {σ : L2.St} {ρ : Env} {j : Nat} (rel : Rel K b B G H ω σ ρ) (h : isL ρ j = true) : ∃ a xs, σ[j]? = some (some (.ref a)) ∧ H a = some (.lst xs) := by
  unfold isL at h
  split at h
  · rename_i ds e
    obtain ⟨a, xs, q1, q2, q3, q4⟩ := rel.lst e
    exact ⟨a, xs, q1, q3⟩
  · cases h
theorem ss_setix {j : Nat} {te ti : TE} {Fe Fi : Env → Out D} (he : Sat K B W (IsR K) te Fe) (hi : Sat K B W (IsR K) ti Fi) : SatS K B W (tAsg te (gSub (tVar j) ti rSetL)) (sSetIx j Fe Fi) := fun b G H ω σ ρ rel Dn post =>
  he.s rel post fun G1 H1 ω1 ρ1 x d r1 s1 i1 p1 => by
    split at p1
    · rename_i hl
      obtain ⟨a, xs, hv, _⟩ := isL_of r1 hl
      refine ⟨.ref a, hv, hi.s r1 (PostS.from s1 p1) fun G2 H2 ω2 ρ2 y i r2 s2 i2 p2 => ?_⟩
      split at p2
      · rename_i ds k e1
        obtain ⟨a', xs, q1, q2, q3, q4⟩ := r2.lst e1
        rw [hv] at q1
        cases q1
        cases i2
        cases e2 : ixN ds.length k with
        | none => rw [e2] at p2; exact p2.elim
        | some m =>
          rw [e2] at p2
          exact ⟨a, xs, k, m, rfl, rfl, q3, by rw [q4.length]; exact e2, p2 σ G2 _ ω2 (r2.upd q2 hv (.one (.lst q2 upd_same (q4.set (i1.mono s2.g) m)))) (s2.trans (tr_upd q2))⟩
      · exact p2.elim
    · exact p1.elim
theorem sat_app {j : Nat} {te : TE} {Fe : Env → Out D} (he : Sat K B W (IsR K) te Fe) : Sat K B W (IsR K) (tBM K "list" rAppend (tVar j) (tCons te tNil)) (fApp j Fe) := by
  intro b G H ω σ ρ rel Q post
  unfold fApp at post
  split at post
  · rename_i hl
    obtain ⟨a, xs, hv, hH⟩ := isL_of rel hl
    refine ⟨.ref a, hv, .inl ⟨rfl, xs, SqL.of hH⟩, ?_⟩
    refine he.at rel post fun G1 H1 ω1 ρ1 x d rel s i post => ?_
    split at post
    · rename_i ds e1
      obtain ⟨a', xs, q1, q2, q3, q4⟩ := rel.lst e1
      rw [hv] at q1
      cases q1
      split at post
      · rename_i hz
        exact ⟨a, xs, x, rfl, rfl, q3, by rw [q4.length]; exact hz, post _ G1 _ ω1 (rel.upd q2 hv (.one (.lst q2 upd_same (q4.append (.cons i .nil))))) (tr_upd q2) (fun z => by cases z) .non⟩
      · exact post.elim
    · exact post.elim
  · exact post.elim
theorem sat_pop {j : Nat} : Sat K B W (IsR K) (tBM0 K "list" rPop (tVar j)) (fPop j) := by
  intro b G H ω σ ρ rel Q post
  unfold fPop at post
  split at post
  · rename_i ds e1
    obtain ⟨a, xs, q1, q2, q3, q4⟩ := rel.lst e1
    cases e2 : ds.getLast? with
    | none => rw [e2] at post; exact post.elim
    | some d =>
      rw [e2] at post
      have h1 : ds[ds.length - 1]? = some d := by rw [← e2, List.getLast?_eq_getElem?]
      obtain ⟨y, h2, h3⟩ := q4.get' h1
      refine ⟨.ref a, q1, .inl ⟨rfl, xs, SqL.of q3⟩, a, xs, y, rfl, rfl, q3, by rw [q4.length]; exact h2, ?_⟩
      have hd : IsAll K G xs.dropLast ds.dropLast := by
        rw [List.dropLast_eq_take, List.dropLast_eq_take, q4.length]
        exact q4.take _
      exact post _ G _ ω (rel.upd q2 q1 (.one (.lst q2 upd_same hd))) (tr_upd q2) (fun z => by cases z) h3
  · exact post.elim
end

/-! ### a op= e at a name -/
def sAug (j : Nat) (B : List Nat) (g : D → D → Res) (Fe : Env → Out D) : Env → SOut := fun ρ => match ρ[j]? with
  | some (some a) => if owned a = true ∨ j ∈ B then .no else (Fe ρ).s fun c ρ1 => (match g a c with
    | .val d => .nx (ρ1.set j (some d))
    | .new ds => .nx (ρ1.set j (some (.lst true ds)))
    | .no => .no)
  | _ => .no
/-- an operator on values that a op= takes -/
def AugV (K : PySem.W.Frag) (r : TIp) (g : D → D → Res) : Prop := ∀ G H x y a c, Same G H → Is K G x a → Is K G y c → ∀ Q, PostR K G H Q (g a c) → r x y H Q
section
variable {K : PySem.W.Frag} {B : By} {W : WX}
theorem ss_aug {j : Nat} {r : TIp} {g : D → D → Res} {te : TE} {Fe : Env → Out D} (hr : AugV K r g) (he : Sat K B W (IsR K) te Fe) : SatS K B W (tAug j te r) (sAug j B.l g Fe) := by
  intro b G H ω σ ρ rel Dn post
  unfold sAug at post
  cases e : ρ[j]? with
  | none => rw [e] at post; exact post.elim
  | some o =>
    cases o with
    | none => rw [e] at post; exact post.elim
    | some a =>
      rw [e] at post
      dsimp only at post
      split at post
      · exact post.elim
      · rename_i hz
        have h1 : owned a = false := by
          cases q : owned a with
          | false => rfl
          | true => exact absurd (.inl q) hz
        have h2 : j ∉ B.l := fun z => hz (.inr z)
        obtain ⟨x, hx, ox⟩ := rel.slot j a e
        have ix := own_is ox h1
        refine ⟨x, hx, he.s rel post fun G1 H1 ω1 ρ1 y c r1 s1 i1 p1 => ?_⟩
        refine hr G1 H1 x y a c r1.le (ix.mono s1.g) i1 _ ?_
        cases e2 : g a c with
        | no => rw [e2] at p1; exact p1.elim
        | val d =>
          rw [e2] at p1
          intro v G2 H2 st le i2
          obtain ⟨ω2, r2, t2⟩ := (r1.step st le).set (s1.trans (.step st)) h2 (own_frz i2)
          exact p1 _ G2 H2 ω2 r2 t2
        | new ds =>
          rw [e2] at p1
          intro p xs hp i2
          have st : Step G1 H1 G1 (L2.upd H1 p (.lst xs)) := Step.hidden hp
          obtain ⟨ω2, r2, t2⟩ := (r1.step st (r1.le.trans (same_upd hp))).set (s1.trans (.step st)) h2 (Back.back s1 (own_new r1 hp i2))
          exact p1 _ G1 _ ω2 r2 t2
theorem aug_i {f : Int → Int → Int} {g : D → D → Res} (h : ∀ i j, g (.int i) (.int j) = .val (.int (f i j))) (hn : ∀ a c, (∀ i j, ¬ (a = .int i ∧ c = .int j)) → g a c = .no) : AugV K (ipI f) g := by
  intro G H x y a c le ia ic Q post
  by_cases z : ∃ i j, a = .int i ∧ c = .int j
  · obtain ⟨i, j, rfl, rfl⟩ := z
    rw [h] at post
    cases ia
    cases ic
    exact ⟨i, j, rfl, rfl, post.here le (.int _)⟩
  · rw [hn a c (fun i j q => z ⟨i, j, q⟩)] at post
    exact post.elim
def addI : D → D → Res
  | .int a, .int b => .val (.int (a + b))
  | _, _ => .no
theorem aug_add : AugV K (ipI fun i j => i + j) addI := by
  intro G H x y a c le ia ic Q post
  cases ia <;> cases ic <;> first
    | exact post.elim
    | exact ⟨_, _, rfl, rfl, post.here le (.int _)⟩
theorem aug_sub : AugV K (ipI fun i j => i - j) subD := by
  intro G H x y a c le ia ic Q post
  cases ia <;> cases ic <;> first
    | exact post.elim
    | exact ⟨_, _, rfl, rfl, post.here le (.int _)⟩
end

/-! ### the judgements of statements -/
section
variable {X : Cx} {B : By} {W : WX} {e c : Expr} {st : Stmt} {rest body orelse : List Stmt} {te : TE} {tc : TT} {t u : TS} {Fe : Env → Out D} {T : Env → Out Bool} {F F' : Env → SOut} {pos : Pos}
theorem dss_nil : DSs X B W [] tNext sNil := ⟨pss_nil, ss_nil⟩
theorem dss_cons (h : DS X B W st t F) (h' : DSs X B W rest u F') : DSs X B W (st :: rest) (tSeq t u) (sSeq F F') := ⟨pss_cons h.ps h'.ps, ss_seq h.sat h'.sat⟩
theorem dss_one (h : DS X B W st t F) : DSs X B W [st] t F := ⟨pss_one h.ps, h.sat⟩
theorem ds_pass : DS X B W (.Pass pos) tNext sNil := ⟨ps_pass, ss_nil⟩
theorem ds_break : DS X B W (.Break pos) tBreak sBk := ⟨ps_break, ss_bk⟩
theorem ds_continue : DS X B W (.Continue pos) tCont sCt := ⟨ps_continue, ss_ct⟩
theorem ds_never : DS X B W st tNever sNo := ⟨ps_never, ss_no⟩
theorem ds_ret (h : DO X B W e te Fe) : DS X B W (.Return (some e) pos) (tRet te) (sRet Fe) := ⟨ps_ret h.pe, ss_ret h.sat⟩
theorem ds_retN : DS X B W (.Return none pos) tRetN sRetN := ⟨ps_retN, ss_retN⟩
theorem ds_if (hc : DT X B W c tc T) (h : DSs X B W body t F) (h' : DSs X B W orelse u F') : DS X B W (.If c body orelse pos) (tIfS tc t u) (sIf T F F') := ⟨ps_if hc.pt h.ps h'.ps, ss_if hc.sat h.sat h'.sat⟩
theorem ds_expr (h : DO X B W e te Fe) (hs : swapsWith e none pos.line X.env = pure false := by rfl) : DS X B W (.Expr e pos) (tDrop te) (sDrop Fe) := ⟨ps_expr h.pe hs, ss_drop h.sat⟩
theorem ds_doc {x j pos'} : DS X B W (.Expr (.Constant (.str x) j pos') pos) tNext sNil := ⟨ps_doc, ss_nil⟩
theorem dg_name {i : Nat} {x : Str} {pos : Pos} (hN : X.N.Nodup) (hi : X.N[i]? = some x) (hx : Loc X.env.scope x := by first | exact Or.inl rfl | exact Or.inr rfl) (hf : X.fn x = true ∨ X.env.scope.names.lookup x = some .local := by first | exact .inl rfl | exact .inr rfl | (right; rfl)) : DG X B (.Name x pos) (gName i) (gN B.l i) := ⟨pg_name hN hi hx hf, sg_name⟩
theorem dgs_nil : DGs X B [] gNil gsNil := ⟨pgs_nil, sgs_nil⟩
theorem dgs_cons {es : List Expr} {g : TG} {gs : TGs} {Fg : D → Env → Option Env} {Fr : List D → Env → Option Env} (h : DG X B e g Fg) (h' : DGs X B es gs Fr)
    (hs : (assignEach (e :: es) X.env).map (·.2) = assign e X.env :: (assignEach es X.env).map (·.2) := by rfl) : DGs X B (e :: es) (gCons g gs) (gsCons Fg Fr) := ⟨pgs_cons h.pg h'.pgs hs, sgs_cons h.sat h'.sat⟩
theorem dg_tup {es : List Expr} {k n : Nat} {gs : TGs} {Fr : List D → Env → Option Env} (hc : X.calm = true) (h : DGs X B es gs Fr)
    (hn : (assignEach es X.env).length = n := by rfl) (hst : (assignEach es X.env).findIdx? (·.1) = none := by rfl) : DG X B (.Tuple es k pos) (gTup X.K n gs) (gT n Fr) := ⟨pg_tup hc h.pgs hn hst, sg_tup h.sat⟩
theorem ds_asg {tg : Expr} {g : TG} {Fg : D → Env → Option Env} (h : DO X B W e te Fe) (hg : DG X B tg g Fg) (hs : swapsWithSole [tg] e pos.line X.env = pure false := by rfl) (hw : swappedStores [tg] e X.env = pure none := by rfl)
    (h1 : (assignEach [tg] X.env).map (·.2) = [assign tg X.env] := by rfl) : DS X B W (.Assign [tg] e pos) (tAsg te g) (sAsg Fe Fg) := ⟨ps_asg h.pe hg.pg hs hw h1, ss_asg h.sat hg.sat⟩
theorem ds_set (i : Nat) {x : Str} {pos' : Pos} (hN : X.N.Nodup) (h : DO X B W e te Fe) (hi : X.N[i]? = some x := by rfl) (hx : Loc X.env.scope x := by first | exact Or.inl rfl | exact Or.inr rfl) (hs : swapsWith e (some (.Name x pos')) pos.line X.env = pure false := by rfl)
    (hf : X.fn x = true ∨ X.env.scope.names.lookup x = some .local := by first | exact .inl rfl | exact .inr rfl | assumption) : DS X B W (.Assign [.Name x pos'] e pos) (tAsg te (gName i)) (sAsg Fe (gN B.l i)) := ⟨ps_set hN hi hx h.pe hs hf, ss_asg h.sat sg_name⟩
theorem ds_aug (i : Nat) {x : Str} {pos' : Pos} {op : Operator} {r : TIp} {g : D → D → Res} (hN : X.N.Nodup) (ho : PIp X op r) (hr : AugV X.K r g) (h : DE X B W e te Fe) (hi : X.N[i]? = some x := by rfl) (hx : Loc X.env.scope x := by first | exact Or.inl rfl | exact Or.inr rfl)
    (hf : X.fn x = true ∨ X.env.scope.names.lookup x = some .local := by first | exact .inl rfl | exact .inr rfl | assumption) : DS X B W (.AugAssign (.Name x pos') op e pos) (tAug i te r) (sAug i B.l g Fe) := ⟨ps_aug hN hi hx h.pe ho hf, ss_aug hr h.sat⟩
/-- a, b = x, y -/
def sPar (B : List Nat) (i j : Nat) (F : Env → Out (List D)) : Env → SOut := fun ρ => (F ρ).s fun ds ρ1 => match ds with
  | [a, c] => if i ∈ B ∨ j ∈ B then .no else .nx ((ρ1.set i (some a)).set j (some c))
  | _ => .no
theorem ss_par {K : PySem.W.Frag} {i j : Nat} {ta : TA} {F : Env → Out (List D)} (h : Sat K B W (IsAR K) ta F) : SatS K B W (tPar i j ta) (sPar B.l i j F) := fun b G H ω σ ρ rel Dn post =>
  h.s rel post fun G1 H1 ω1 ρ1 xs ds r1 s1 i1 p1 => by
    cases i1 with
    | nil => exact p1.elim
    | cons a1 i1 =>
      cases i1 with
      | nil => exact p1.elim
      | cons a2 i1 =>
        cases i1 with
        | cons _ _ => exact p1.elim
        | nil =>
          dsimp only at p1
          split at p1
          · exact p1.elim
          · rename_i hz
            obtain ⟨ω2, r2, t2⟩ := r1.set s1 (fun z => hz (.inl z)) (own_frz a1)
            obtain ⟨ω3, r3, t3⟩ := r2.set t2 (fun z => hz (.inr z)) (own_frz a2)
            exact ⟨_, _, rfl, p1 _ G1 H1 ω3 r3 t3⟩
theorem ds_par (i j : Nat) {es : List Expr} {ta : TA} {F : Env → Out (List D)} (h : DA X B W es ta F) (mk : PA X es ta → PS X st (tPar i j ta)) : DS X B W st (tPar i j ta) (sPar B.l i j F) := ⟨mk h.pa, ss_par h.sat⟩
/-- xs[i] = e -/
theorem ds_setix (j : Nat) {x : Str} {px p2 : Pos} {o : Expr} {ti : TE} {Fi : Env → Out D} (he : DE X B W e te Fe) (hi : DE X B W o ti Fi) (hN : X.N[j]? = some x := by rfl) (hv : Vis X.env.scope x := by first | exact Or.inl rfl | exact Or.inr (Or.inl rfl) | exact Or.inr (Or.inr rfl))
    (hd : (x == ("__debug__" : Str)) = false := by decide) (hcd : (x == ("__classdict__" : Str)) = false := by decide)
    (ha : ∀ v, assign (.Subscript (.Name x px) o p2) X.env v = (do
      let ov ← holding [v] (eval (.Name x px) X.env)
      let iv ← holding [v, ov] (eval o X.env)
      standAt p2
      holding [v, ov, iv] (setItem ov iv v)
      release [v, ov, iv] []) := by intro _; rfl)
    (hs : swapsWithSole [.Subscript (.Name x px) o p2] e pos.line X.env = pure false := by rfl) (hw : swappedStores [.Subscript (.Name x px) o p2] e X.env = pure none := by rfl)
    (h1 : (assignEach [.Subscript (.Name x px) o p2] X.env).map (·.2) = [assign (.Subscript (.Name x px) o p2) X.env] := by rfl) :
    DS X B W (.Assign [.Subscript (.Name x px) o p2] e pos) (tAsg te (gSub (tVar j) ti rSetL)) (sSetIx j Fe Fi) := ⟨ps_asg he.pe (pg_sub (pe_var hN hv hd hcd) hi.pe set_list ha) hs hw h1, ss_setix he.sat hi.sat⟩
/-- xs.append(e), xs.pop() -/
theorem d_app (j : Nat) {a : Expr} (he : DE X B W a te Fe) (mk : PE X a te → PE X e (tBM X.K "list" rAppend (tVar j) (tCons te tNil))) : DE X B W e (tBM X.K "list" rAppend (tVar j) (tCons te tNil)) (fApp j Fe) := ⟨mk he.pe, sat_app he.sat⟩
theorem d_pop (j : Nat) (mk : PE X e (tBM0 X.K "list" rPop (tVar j))) : DE X B W e (tBM0 X.K "list" rPop (tVar j)) (fPop j) := ⟨mk, sat_pop⟩
end
end DL
set_option Elab.async false
set_option linter.all false
set_option maxRecDepth 100000
set_option maxHeartbeats 1000000
namespace DL
open PySem PySem.Spec PyProof.Rows L2

/-! ### what is walked -/
/-- J hands out the items ds, in order, from the frozen heap G on -/
structure Yld (K : PySem.W.Frag) (G : Hp) (J : It) (ds : List D) : Prop where
  go : ∀ i G' H, Same G G' → Same G' H → i < ds.length → J.go i H
  stop : ∀ i G' H, Same G G' → Same G' H → ds.length ≤ i → J.stop i H
  yld : ∀ i G' H x H', Same G G' → Same G' H → i < ds.length → J.yld i H x H' → ∃ d, ds[i]? = some d ∧ ∃ G2, Step G' H G2 H' ∧ Same G2 H' ∧ Is K G2 x d
abbrev YldR (K : PySem.W.Frag) : Rep (List D) It := fun _ _ _ G _ _ J ds => Yld K G J ds
instance {K : PySem.W.Frag} : Back (YldR K) := ⟨fun _ h => h⟩
structure DI (X : Cx) (B : By) (W : WX) (tg e : Expr) (wi : TI) (F : Env → Out (List D)) : Prop where
  pi : PI X tg e wi
  sat : Sat X.K B W (YldR X.K) wi F
section
variable {K : PySem.W.Frag} {G : Hp}
theorem yld_list {a : Addr} {xs : List V} {ds : List D} (h : Rd G a (.lst xs)) (i : IsAll K G xs ds) : Yld K G (Itl K a) ds where
  go := fun j G' H s le hj => by
    have hj' : j < xs.length := by rw [i.length]; exact hj
    exact ⟨xs, xs[j], .inl (same_rd (s.trans le) h), by simp [hj']⟩
  stop := fun j G' H s le hj => ⟨xs, .inl (same_rd (s.trans le) h), by rw [i.length]; exact hj⟩
  yld := fun j G' H x H' s le _ y => by
    obtain ⟨e, y⟩ := y
    subst e
    obtain ⟨d, h1, h2⟩ := i.get (y xs (.inl (same_rd (s.trans le) h)))
    exact ⟨d, h1, G', Step.refl _ _, le, h2.mono s⟩
theorem yld_tup {a : Addr} {xs : List V} {ds : List D} (h : TupAt K G a xs) (i : IsAll K G xs ds) : Yld K G (Itt K a) ds where
  go := fun j G' H s le hj => by
    have hj' : j < xs.length := by rw [i.length]; exact hj
    exact ⟨xs, xs[j], sq_tup (s.trans le) h, by simp [hj']⟩
  stop := fun j G' H s le hj => ⟨xs, sq_tup (s.trans le) h, by rw [i.length]; exact hj⟩
  yld := fun j G' H x H' s le _ y => by
    obtain ⟨e, y⟩ := y
    subst e
    obtain ⟨d, h1, h2⟩ := i.get (y xs (sq_tup (s.trans le) h))
    exact ⟨d, h1, G', Step.refl _ _, le, h2.mono s⟩
def rngD (lo : Int) (n : Nat) : List D := (List.range n).map fun (i : Nat) => D.int (lo + (i : Int))
theorem rngD_length {lo : Int} {n : Nat} : (rngD lo n).length = n := by unfold rngD; rw [List.length_map, List.length_range]
theorem yld_rng {lo : Int} {n : Nat} : Yld K G (Itr lo n) (rngD lo n) where
  go := fun j G' H s le hj => by rw [rngD_length] at hj; exact hj
  stop := fun j G' H s le hj => by rw [rngD_length] at hj; exact hj
  yld := fun j G' H x H' s le hj y => by
    obtain ⟨e, y⟩ := y
    subst e
    subst y
    rw [rngD_length] at hj
    refine ⟨.int (lo + (j : Int)), ?_, G', Step.refl _ _, le, .int _⟩
    unfold rngD
    rw [List.getElem?_map, List.getElem?_range hj]
    rfl
def sgnD (x : Str) : List D := x.cps.toList.map fun c => D.str ⟨#[c]⟩
theorem sgnD_length {x : Str} : (sgnD x).length = x.cps.size := by unfold sgnD; rw [List.length_map, Array.length_toList]
theorem yld_str {x : Str} : Yld K G (Its x) (sgnD x) where
  go := fun j G' H s le hj => by rw [sgnD_length] at hj; exact hj
  stop := fun j G' H s le hj => by rw [sgnD_length] at hj; exact hj
  yld := fun j G' H v H' s le _ y => by
    obtain ⟨e, c, hc, y⟩ := y
    subst e
    subst y
    refine ⟨.str ⟨#[c]⟩, ?_, G', Step.refl _ _, le, .str _⟩
    unfold sgnD
    rw [List.getElem?_map, Array.getElem?_toList, hc]
    rfl
end

/-! ### any sequence that a name, a call .. gives -/
def seqD : D → Option (List D)
  | .tup ds => some ds
  | .lst _ ds => some ds
  | .str x => some (sgnD x)
  | _ => none
def rAny (K : PySem.W.Frag) (x : V) (H1 : Hp) (R : It → Hp → Prop) : Prop := (∃ a, x = .ref a ∧ (∃ xs, SqL K H1 a xs) ∧ R (Itl K a) H1) ∨ (∃ a, x = .ref a ∧ (∃ xs, SqT K H1 a xs) ∧ R (Itt K a) H1) ∨ (∃ z, x = .str z ∧ R (Its z) H1)
def iAny (K : PySem.W.Frag) (tl : TE) : TI := fun σ H R => tl σ H fun x H1 => rAny K x H1 R
theorem pi_any {X : Cx} {tg l : Expr} {tl : TE} (hl : PE X l tl) : PI X tg l (iAny X.K tl) := by
  refine ⟨fun pins s σ H R I h => ?_⟩
  refine thn (hl.run pins s σ H _ I h) fun v s1 ⟨x, H1, I1, r1, q1⟩ => ?_
  rcases q1 with ⟨a, rfl, ⟨xs, hq⟩, q⟩ | ⟨a, rfl, ⟨xs, hq⟩, q⟩ | ⟨z, rfl, q⟩
  · cases r1
    obtain ⟨its, rv, p, hz⟩ := I1.list hq
    refine wpAny_pyIter_list p.isList ?_
    exact pi_one (tk := s1.toks) I1 _ (turn_list a _) ⟨_, Heap.get?_push_size _ rfl, rfl, rfl⟩ q
  · cases r1
    obtain ⟨its, rv, p, hz⟩ := I1.tuple hq
    refine wpAny_pyIter_tuple (show s1.heap.IsTuple a its.toArray from p) ?_
    exact pi_one (tk := s1.toks) I1 _ (turn_tuple a _) ⟨_, Heap.get?_push_size _ rfl, rfl, rfl⟩ q
  · obtain ⟨t, rfl⟩ := r1
    cases ha : z.cps.all (· < 128) with
    | false => exact wpAny_pyIter_wide ha (pi_one (tk := s1.toks) I1 _ (turn_str _ z t "str_iterator" (.inr rfl)) ⟨_, Heap.get?_push_size _ rfl, rfl, rfl⟩ q)
    | true => exact wpAny_pyIter_ascii ha (pi_one (tk := s1.toks) I1 _ (turn_str _ z t "str_ascii_iterator" (.inl rfl)) ⟨_, Heap.get?_push_size _ rfl, rfl, rfl⟩ q)
def liftL (o : Option (List D)) (ρ : Env) : Out (List D) := match o with
  | some ds => .ok ds ρ true
  | none => .no
def fAny (F : Env → Out D) : Env → Out (List D) := fun ρ => (F ρ).bind fun a ρ1 => liftL (seqD a) ρ1
def rng1 (as : List D) (ρ1 : Env) : Out (List D) := match as with
  | [.int j] => if -(2 ^ 62) ≤ j ∧ j < 2 ^ 62 then .ok (rngD 0 j.toNat) ρ1 true else .no
  | _ => .no
def rng2 (as : List D) (ρ1 : Env) : Out (List D) := match as with
  | [.int i, .int j] => if -(2 ^ 62) ≤ i ∧ i < 2 ^ 62 ∧ -(2 ^ 62) ≤ j ∧ j < 2 ^ 62 then .ok (rngD i (j - i).toNat) ρ1 true else .no
  | _ => .no
def fRng1 (F : Env → Out (List D)) : Env → Out (List D) := fun ρ => (F ρ).bind rng1
def fRng2 (F : Env → Out (List D)) : Env → Out (List D) := fun ρ => (F ρ).bind rng2
section
variable {K : PySem.W.Frag} {B : By} {W : WX}
theorem si_any {t : TE} {F : Env → Out D} (h : Sat K B W (IsR K) t F) : Sat K B W (YldR K) (iAny K t) (fAny F) :=
  Sat.bind (R' := YldR K) (Fu := fun a ρ1 => liftL (seqD a) ρ1) (t := t) (u := fun x σ H R => rAny K x H R) h fun b Hs ωs G H ω σ ρ rel x a i Q post => by
    cases i with
    | tup hs ha => exact .inr (.inl ⟨_, rfl, ⟨_, sq_tup rel.le hs⟩, Post.now rel post (yld_tup hs ha)⟩)
    | lst hs ha => exact .inl ⟨_, rfl, ⟨_, .inl (same_rd rel.le hs)⟩, Post.now rel post (yld_list hs ha)⟩
    | str z => exact .inr (.inr ⟨z, rfl, Post.now rel post yld_str⟩)
    | _ => exact post.elim
theorem si_rng1 {t : TA} {F : Env → Out (List D)} (h : Sat K B W (IsAR K) t F) : Sat K B W (YldR K) (iRng1 t) (fRng1 F) :=
  Sat.bind (R' := YldR K) (Fu := rng1) (t := t) (u := fun vs σ H R => ∃ j : Int, vs = [.int j] ∧ -(2 ^ 62) ≤ j ∧ j < 2 ^ 62 ∧ R (Itr 0 j.toNat) H) h fun b Hs ωs G H ω σ ρ rel x a i Q post => by
    unfold rng1 at post
    split at post
    · cases i with
      | cons i1 i2 =>
        cases i2
        cases i1
        split at post
        · rename_i hz
          exact ⟨_, rfl, hz.1, hz.2, Post.now rel post yld_rng⟩
        · exact post.elim
    · exact post.elim
theorem si_rng2 {t : TA} {F : Env → Out (List D)} (h : Sat K B W (IsAR K) t F) : Sat K B W (YldR K) (iRng2 t) (fRng2 F) :=
  Sat.bind (R' := YldR K) (Fu := rng2) (t := t) (u := fun vs σ H R => ∃ i j : Int, vs = [.int i, .int j] ∧ (-(2 ^ 62) ≤ i ∧ i < 2 ^ 62 ∧ -(2 ^ 62) ≤ j ∧ j < 2 ^ 62) ∧ R (Itr i (j - i).toNat) H) h fun b Hs ωs G H ω σ ρ rel x a i Q post => by
    unfold rng2 at post
    split at post
    · cases i with
      | cons i1 i2 =>
        cases i2 with
        | cons i2 i3 =>
          cases i3
          cases i1
          cases i2
          split at post
          · rename_i hz
            exact ⟨_, _, rfl, hz, Post.now rel post yld_rng⟩
          · exact post.elim
    · exact post.elim
end

/-! ### for -/
def forD (g : D → Env → Option Env) (body : Env → SOut) : List D → Env → SOut
  | [], ρ => .nx ρ
  | d :: ds, ρ => match g d ρ with
    | none => .no
    | some ρ1 => (match body ρ1 with
      | .nx ρ2 => forD g body ds ρ2
      | .ct ρ2 => forD g body ds ρ2
      | .bk ρ2 => .nx ρ2
      | .rt d ρ2 => .rt d ρ2
      | .ex c ρ2 => .ex c ρ2
      | .no => .no)
def sFor (F : Env → Out (List D)) (g : D → Env → Option Env) (body : Env → SOut) : Env → SOut := fun ρ => (F ρ).s fun ds ρ1 => forD g body ds ρ1
section
variable {K : PySem.W.Frag} {B : By} {W : WX}
theorem ss_for {wi : TI} {g : TG} {tb : TS} {F : Env → Out (List D)} {Fg : D → Env → Option Env} {Fb : Env → SOut} (hi : Sat K B W (YldR K) wi F) (hg : SatG K B g Fg) (hb : SatS K B W tb Fb) : SatS K B W (tFor wi g tb) (sFor F Fg Fb) := fun b G0 H0 ω0 σ0 ρ0 rel0 Dn post0 =>
  hi.s rel0 post0 fun G1 H1 ω1 ρ1 J ds rel1 s1 Y post1 => by
    refine ⟨fun i m σ H => m = ds.length - i ∧ i ≤ ds.length ∧ ∃ G ω ρ, Rel K b B G H ω σ ρ ∧ Same G1 G ∧ PostS K B W b G H ω Dn (forD Fg Fb (ds.drop i) ρ), ⟨_, rfl, Nat.zero_le _, G1, ω1, ρ1, rel1, Same.refl _, PostS.from s1 post1⟩, ?_⟩
    rintro i m σ H ⟨rfl, hi, G, ω, ρ, rel, sG, post⟩
    by_cases hl : i < ds.length
    · refine .inr ⟨Y.go i G H sG rel.le hl, fun σ' H' => ∃ G ω ρ, Rel K b B G H' ω σ' ρ ∧ Same G1 G ∧ PostS K B W b G H' ω Dn (forD Fg Fb (ds.drop (i + 1)) ρ), fun σ' H' h => ⟨ds.length - (i + 1), by omega, rfl, hl, h⟩, fun x H' y => ?_⟩
      obtain ⟨d, hd, G2, st, le2, ix⟩ := Y.yld i G H x H' sG rel.le hl y
      have e : ds.drop i = d :: ds.drop (i + 1) := by
        rw [List.drop_eq_getElem_cons hl]
        have q : ds[i] = d := by
          have z := hd
          rw [List.getElem?_eq_getElem hl] at z
          exact Option.some.inj z
        rw [q]
      rw [e] at post
      have t2 : Tr G H ω G2 H' ω := .step st
      have rel2 := rel.step st le2
      refine hg b G H ω G2 H' ω σ ρ rel2 t2 x d (own_frz ix) _ ?_
      cases eg : Fg d ρ with
      | none => rw [forD, eg] at post; exact post.elim
      | some ρ2 =>
        rw [forD, eg] at post
        dsimp only at post
        intro σ3 G3 H3 ω3 rel3 t3
        refine hb b G3 H3 ω3 σ3 ρ2 rel3 _ ?_
        cases eb : Fb ρ2 with
        | no => rw [eb] at post; exact post.elim
        | nx ρ4 => rw [eb] at post; exact fun σ4 G4 H4 ω4 rel4 t4 => ⟨G4, ω4, ρ4, rel4, (sG.trans t3.g).trans t4.g, PostS.from (t3.trans t4) post⟩
        | ct ρ4 => rw [eb] at post; exact fun σ4 G4 H4 ω4 rel4 t4 => ⟨G4, ω4, ρ4, rel4, (sG.trans t3.g).trans t4.g, PostS.from (t3.trans t4) post⟩
        | bk ρ4 => rw [eb] at post; exact fun σ4 G4 H4 ω4 rel4 t4 => post σ4 G4 H4 ω4 rel4 (t3.trans t4)
        | rt d ρ4 => rw [eb] at post; exact fun v σ4 G4 H4 ω4 rel4 t4 o => post v σ4 G4 H4 ω4 rel4 (t3.trans t4) (Back.back t3 o)
        | ex c ρ4 => rw [eb] at post; exact fun cls dd σ4 G4 H4 ω4 rel4 t4 i => post cls dd σ4 G4 H4 ω4 rel4 (t3.trans t4) i
    · have e : i = ds.length := by omega
      subst e
      rw [List.drop_length] at post
      exact .inl ⟨Y.stop _ G H sG rel.le (Nat.le_refl _), post σ G H ω rel .refl⟩
end

/-! ### while: n turns at most -/
def whileD (T : Env → Out Bool) (body : Env → SOut) : Nat → Env → SOut
  | 0, _ => .no
  | n + 1, ρ => (T ρ).s fun k ρ1 => if k = true then (match body ρ1 with
      | .nx ρ2 => whileD T body n ρ2
      | .ct ρ2 => whileD T body n ρ2
      | .bk ρ2 => .nx ρ2
      | .rt d ρ2 => .rt d ρ2
      | .ex c ρ2 => .ex c ρ2
      | .no => .no) else .nx ρ1
section
variable {K : PySem.W.Frag} {B : By} {W : WX}
theorem ss_while {c : TT} {tb : TS} {T : Env → Out Bool} {Fb : Env → SOut} (n : Nat) (hc : Sat K B W (EqR Bool) c T) (hb : SatS K B W tb Fb) : SatS K B W (tWhile c tb) (whileD T Fb n) := fun b G0 H0 ω0 σ0 ρ0 rel0 Dn post0 => by
  refine ⟨fun m σ H => ∃ G ω ρ, Rel K b B G H ω σ ρ ∧ PostS K B W b G H ω Dn (whileD T Fb m ρ), ⟨n, G0, ω0, ρ0, rel0, post0⟩, ?_⟩
  rintro m σ H ⟨G, ω, ρ, rel, post⟩
  cases m with
  | zero => exact post.elim
  | succ m =>
    refine hc.s rel (by rw [whileD] at post; exact post) fun G1 H1 ω1 ρ1 x k rel1 s1 e p => ?_
    subst e
    cases x with
    | false => exact p σ G1 H1 ω1 rel1 s1
    | true =>
      rw [if_pos rfl] at p
      refine ⟨fun σ' H' => ∃ G ω ρ, Rel K b B G H' ω σ' ρ ∧ PostS K B W b G H' ω Dn (whileD T Fb m ρ), fun σ' H' h => ⟨m, Nat.lt_succ_self _, h⟩, hb b G1 H1 ω1 σ ρ1 rel1 _ ?_⟩
      cases eb : Fb ρ1 with
      | no => rw [eb] at p; exact p.elim
      | nx ρ4 => rw [eb] at p; exact fun σ4 G4 H4 ω4 rel4 t4 => ⟨G4, ω4, ρ4, rel4, PostS.from (s1.trans t4) p⟩
      | ct ρ4 => rw [eb] at p; exact fun σ4 G4 H4 ω4 rel4 t4 => ⟨G4, ω4, ρ4, rel4, PostS.from (s1.trans t4) p⟩
      | bk ρ4 => rw [eb] at p; exact fun σ4 G4 H4 ω4 rel4 t4 => p σ4 G4 H4 ω4 rel4 (s1.trans t4)
      | rt d ρ4 => rw [eb] at p; exact fun v σ4 G4 H4 ω4 rel4 t4 o => p v σ4 G4 H4 ω4 rel4 (s1.trans t4) (Back.back s1 o)
      | ex c ρ4 => rw [eb] at p; exact fun cls dd σ4 G4 H4 ω4 rel4 t4 i => p cls dd σ4 G4 H4 ω4 rel4 (s1.trans t4) i
end
end DL
set_option Elab.async false
set_option linter.all false
set_option maxRecDepth 100000
set_option maxHeartbeats 1000000
namespace DL
open PySem PySem.Spec PyProof.Rows L2

/-! ### [e for x in it if t] -/
abbrev W0 : WX := fun _ _ _ _ => False
def wipeE (ρ : Env) : List Nat → Env
  | [] => ρ
  | v :: vs => (wipeE ρ vs).set v none
def lcD (vs : List Nat) (g : D → Env → Option Env) (T : Env → Out Bool) (Fe : Env → Out D) : List D → List D → Env → Out D
  | [], acc, ρ => .ok (.lst true acc) ρ false
  | d :: ds, acc, ρ => match g d ρ with
    | none => .no
    | some ρ1 => (match T ρ1 with
      | .ok k ρ2 _ => if k = true then (match Fe ρ2 with
        | .ok e ρ3 _ => if acc.length < sizeLine then lcD vs g T Fe ds (acc ++ [e]) (wipeE ρ3 vs) else .no
        | _ => .no) else lcD vs g T Fe ds acc (wipeE ρ2 vs)
      | _ => .no)
def fLc (vs : List Nat) (F : Env → Out (List D)) (g : D → Env → Option Env) (T : Env → Out Bool) (Fe : Env → Out D) : Env → Out D := fun ρ => (F ρ).bind fun ds ρ1 => lcD vs g T Fe ds [] (wipeE ρ1 vs)
def fYes : Env → Out Bool := fun ρ => .ok true ρ true
/-- a target stores within vs -/
def KeepG (vs : List Nat) (g : TG) : Prop := ∀ v σ H Q, g v σ H Q → g v σ H fun σ' H' => Q σ' H' ∧ wipe σ' vs = wipe σ vs
def KeepGs (vs : List Nat) (g : TGs) : Prop := ∀ us σ H Q, g us σ H Q → g us σ H fun σ' H' => Q σ' H' ∧ wipe σ' vs = wipe σ vs
theorem wipe_get {σ : L2.St} {j : Nat} : ∀ {vs : List Nat}, (wipe σ vs)[j]? = if j ∈ vs then (if j < σ.length then some none else none) else σ[j]?
  | [] => by simp [wipe]
  | v :: vs => by
    unfold wipe
    rw [List.getElem?_set, wipe_length, wipe_get (vs := vs)]
    by_cases hj : v = j
    · subst hj; simp
    · have hj' : ¬ j = v := fun e => hj e.symm
      simp [hj, hj']
theorem wipeE_get {σ : Env} {j : Nat} : ∀ {vs : List Nat}, (wipeE σ vs)[j]? = if j ∈ vs then (if j < σ.length then some none else none) else σ[j]?
  | [] => by simp [wipeE]
  | v :: vs => by
    have hl : ∀ ws : List Nat, (wipeE σ ws).length = σ.length := by
      intro ws
      induction ws with
      | nil => rfl
      | cons w ws ih => unfold wipeE; rw [List.length_set, ih]
    unfold wipeE
    rw [List.getElem?_set, hl, wipeE_get (vs := vs)]
    by_cases hj : v = j
    · subst hj; simp
    · have hj' : ¬ j = v := fun e => hj e.symm
      simp [hj, hj']
theorem wipeE_length (σ : Env) : ∀ ws : List Nat, (wipeE σ ws).length = σ.length
  | [] => rfl
  | w :: ws => by unfold wipeE; rw [List.length_set, wipeE_length σ ws]
theorem wipe_set {σ : L2.St} {i : Nat} {x : Option V} {vs : List Nat} (h : i ∈ vs) : wipe (σ.set i x) vs = wipe σ vs := by
  apply List.ext_getElem?
  intro j
  rw [wipe_get, wipe_get, List.length_set]
  by_cases hj : i = j
  · subst hj; simp [h]
  · rw [List.getElem?_set_ne hj]
theorem keep_name {vs : List Nat} {i : Nat} (h : i ∈ vs) : KeepG vs (gName i) := fun v σ H Q q => ⟨q, wipe_set h⟩
theorem keep_nil {vs : List Nat} : KeepGs vs gNil := fun us σ H Q ⟨e, q⟩ => ⟨e, q, rfl⟩
theorem keep_cons {vs : List Nat} {g : TG} {gs : TGs} (h : KeepG vs g) (h' : KeepGs vs gs) (m : ∀ v σ H Q Q', (∀ σ' H', Q σ' H' → Q' σ' H') → g v σ H Q → g v σ H Q') : KeepGs vs (gCons g gs) := fun us σ H Q ⟨v, r, e, q⟩ =>
  ⟨v, r, e, m _ _ _ _ _ (fun σ' H' z => (h' r σ' H' Q z.1) |> fun y => by
    have k := z.2
    exact (show gs r σ' H' (fun σ2 H2 => Q σ2 H2 ∧ wipe σ2 vs = wipe σ vs) from by rw [← k]; exact y)) (h v σ H _ q)⟩
theorem keep_tup {K : PySem.W.Frag} {n : Nat} {vs : List Nat} {gs : TGs} (h : KeepGs vs gs) : KeepG vs (gTup K n gs) := fun v σ H Q ⟨a, xs, e1, e2, e3, q⟩ => ⟨a, xs, e1, e2, e3, h xs σ H Q q⟩
theorem mono_name {i : Nat} : ∀ v σ H (Q Q' : L2.St → Hp → Prop), (∀ σ' H', Q σ' H' → Q' σ' H') → gName i v σ H Q → gName i v σ H Q' := fun v σ H Q Q' h q => h _ _ q
theorem mono_tup {K : PySem.W.Frag} {n : Nat} {gs : TGs} (m : ∀ us σ H (Q Q' : L2.St → Hp → Prop), (∀ σ' H', Q σ' H' → Q' σ' H') → gs us σ H Q → gs us σ H Q') : ∀ v σ H (Q Q' : L2.St → Hp → Prop), (∀ σ' H', Q σ' H' → Q' σ' H') → gTup K n gs v σ H Q → gTup K n gs v σ H Q' :=
  fun v σ H Q Q' h ⟨a, xs, e1, e2, e3, q⟩ => ⟨a, xs, e1, e2, e3, m xs σ H Q Q' h q⟩
theorem monos_nil : ∀ us σ H (Q Q' : L2.St → Hp → Prop), (∀ σ' H', Q σ' H' → Q' σ' H') → gNil us σ H Q → gNil us σ H Q' := fun us σ H Q Q' h ⟨e, q⟩ => ⟨e, h _ _ q⟩
theorem monos_cons {g : TG} {gs : TGs} (m : ∀ v σ H (Q Q' : L2.St → Hp → Prop), (∀ σ' H', Q σ' H' → Q' σ' H') → g v σ H Q → g v σ H Q') (ms : ∀ us σ H (Q Q' : L2.St → Hp → Prop), (∀ σ' H', Q σ' H' → Q' σ' H') → gs us σ H Q → gs us σ H Q') :
    ∀ us σ H (Q Q' : L2.St → Hp → Prop), (∀ σ' H', Q σ' H' → Q' σ' H') → gCons g gs us σ H Q → gCons g gs us σ H Q' := fun us σ H Q Q' h ⟨v, r, e, q⟩ => ⟨v, r, e, m _ _ _ _ _ (fun σ' H' z => ms _ _ _ _ _ h z) q⟩
section
variable {K : PySem.W.Frag} {B : By} {W : WX} {b : Bs} {G H : Hp} {ω : Lb} {σ : L2.St} {ρ : Env}
/-- the block's own names out of sight -/
theorem Rel.wipe (R : Rel K b B G H ω σ ρ) {σ' : L2.St} {vs : List Nat} (hv : ∀ i ∈ vs, i ∉ B.l) (hs : L2.wipe σ' vs = L2.wipe σ vs) : Rel K b B G H ω σ' (wipeE ρ vs) where
  le := R.le
  leG := R.leG
  old := R.old
  dom := R.dom
  fr := R.fr
  own := R.own
  bB := R.bB
  len := by
    have h := congrArg List.length hs
    rw [wipe_length, wipe_length] at h
    rw [wipeE_length, h, R.len]
  slot := fun i d e => by
    rw [wipeE_get] at e
    by_cases hi : i ∈ vs
    · rw [if_pos hi] at e
      split at e <;> cases e
    · rw [if_neg hi] at e
      obtain ⟨v, h1, h2⟩ := R.slot i d e
      have z := congrArg (·[i]?) hs
      simp only [wipe_out hi] at z
      exact ⟨v, by rw [z]; exact h1, h2⟩
  pin := R.pin
  byr := fun i hi => by
    have hn : i ∉ vs := fun z => hv i z hi
    have z := congrArg (·[i]?) hs
    simp only [wipe_out hn] at z
    rw [z]
    exact R.byr i hi
/-- an object that nobody owns and that is not frozen is made, or changed -/
theorem Rel.aside (R : Rel K b B G H ω σ ρ) {L : Addr} {o : HO} (h1 : ω L = none) (h2 : G L = none) (h3 : b.H L = none) : Rel K b B G (L2.upd H L o) ω σ ρ where
  le := fun a u e => by rw [upd_ne (fun z => by rw [z, h2] at e; cases e)]; exact R.le a u e
  leG := R.leG
  old := fun a u q e => by rw [upd_ne (fun z => by rw [z, h3] at e; cases e)]; exact R.old a u q e
  dom := fun a e => by
    by_cases c : a = L
    · rw [c]; exact h3
    · rw [upd_ne c] at e; exact R.dom a e
  fr := R.fr
  own := fun a l q => by
    obtain ⟨y1, y2, y3⟩ := R.own a l q
    exact ⟨y1, by rw [upd_ne (fun z => by rw [z, h1] at q; cases q)]; exact y2, y3⟩
  bB := R.bB
  len := R.len
  slot := fun i d e => by
    obtain ⟨v, z1, z2⟩ := R.slot i d e
    exact ⟨v, z1, z2.go (Same.refl _) fun a p q => ⟨q, upd_ne (fun z => by rw [z, h1] at q; cases q)⟩⟩
  byr := R.byr
  pin := R.pin
theorem Tr.aside {G0 H0 : Hp} {ω0 : Lb} (t : Tr G0 H0 ω0 G H ω) {L : Addr} {o : HO} (h : H0 L = none) : Tr G0 H0 ω0 G (L2.upd H L o) ω where
  g := t.g
  keep := fun a u q e => by
    obtain ⟨k1, k2⟩ := t.keep a u q e
    exact ⟨by rw [upd_ne (fun z => by rw [z, h] at e; cases e)]; exact k1, k2⟩
  hid := t.hid
  dom := fun a e => by
    by_cases c : a = L
    · rw [c]; exact h
    · rw [upd_ne c] at e; exact t.dom a e
theorem wipe_wipe {σ : L2.St} {vs : List Nat} : L2.wipe (L2.wipe σ vs) vs = L2.wipe σ vs := by
  apply List.ext_getElem?
  intro j
  rw [wipe_get, wipe_length, wipe_get]
  by_cases h : j ∈ vs <;> simp [h]
def Bare (vs : List Nat) (ρ : Env) : Prop := ∀ i ∈ vs, ∀ d, ρ[i]? ≠ some (some d)
theorem bare_wipe {vs : List Nat} {ρ : Env} : Bare vs (wipeE ρ vs) := fun i hi d e => by
  rw [wipeE_get, if_pos hi] at e
  split at e <;> cases e
theorem Rel.bare (R : Rel K b B G H ω σ ρ) {σ' : L2.St} {vs : List Nat} (hv : ∀ i ∈ vs, i ∉ B.l) (hs : L2.wipe σ' vs = L2.wipe σ vs) (hb : Bare vs ρ) : Rel K b B G H ω σ' ρ :=
  ⟨R.le, R.leG, R.old, R.dom, R.fr, R.own, R.bB, by rw [(R.wipe hv hs).len, wipeE_length], fun i d e => by
    have hi : i ∉ vs := fun z => hb i z d e
    refine (R.wipe hv hs).slot i d ?_
    rw [wipeE_get, if_neg hi]
    exact e, (R.wipe hv hs).byr, R.pin⟩
theorem sat_lc {wi : TI} {g : TG} {tt : TT} {te : TE} {F : Env → Out (List D)} {Fg : D → Env → Option Env} {T : Env → Out Bool} {Fe : Env → Out D} {vs : List Nat} (hi : Sat K B W (YldR K) wi F) (hg : SatG K B g Fg) (hk : KeepG vs g)
    (hm : ∀ v σ H (Q Q' : L2.St → Hp → Prop), (∀ σ' H', Q σ' H' → Q' σ' H') → g v σ H Q → g v σ H Q') (ht : Sat K B W0 (EqR Bool) tt T) (he : Sat K B W0 (IsR K) te Fe) (hv : ∀ i ∈ vs, i ∉ B.l) : Sat K B W (OwnR K) (tLc wi g tt te vs) (fLc vs F Fg T Fe) := by
  intro b G0 H0 ω0 σ ρ0 rel0 Q post0
  refine hi.at rel0 post0 fun G1 H1 ω1 ρ1 J ds rel1 s1 Y post1 => ?_
  intro L hL
  have oL : ω1 L = none := by
    cases q : ω1 L with
    | none => rfl
    | some l => exact absurd hL (rel1.own L l q).2.1
  have gL : G1 L = none := same_none rel1.le hL
  have bL : b.H L = none := rel1.dom L hL
  refine ⟨fun i m H => m = ds.length - i ∧ i ≤ ds.length ∧ ∃ G ω ρ acc xs, Rel K b B G H ω σ ρ ∧ Bare vs ρ ∧ Tr G1 H1 ω1 G H ω ∧ ω L = none ∧ G L = none ∧ H L = some (.lst xs) ∧ IsAll K G xs acc ∧
    Post K B W b G1 H1 ω1 σ (OwnR K) Q (lcD vs Fg T Fe (ds.drop i) acc ρ), ⟨_, rfl, Nat.zero_le _, G1, ω1, wipeE ρ1 vs, [], [], (rel1.aside oL gL bL).wipe hv rfl, bare_wipe, Tr.aside .refl hL, oL, gL, upd_same, .nil, post1⟩, ?_⟩
  rintro i m H ⟨rfl, hle, G, ω, ρ, acc, xs, rel, hb, t, oLw, gLw, hH, ia, post⟩
  by_cases hl : i < ds.length
  · refine .inr ⟨Y.go i G H t.g rel.le hl, fun H' => ∃ G ω ρ acc xs, Rel K b B G H' ω σ ρ ∧ Bare vs ρ ∧ Tr G1 H1 ω1 G H' ω ∧ ω L = none ∧ G L = none ∧ H' L = some (.lst xs) ∧ IsAll K G xs acc ∧
      Post K B W b G1 H1 ω1 σ (OwnR K) Q (lcD vs Fg T Fe (ds.drop (i + 1)) acc ρ), fun H' h => ⟨ds.length - (i + 1), by omega, rfl, hl, h⟩, fun x H' y => ?_⟩
    obtain ⟨d, hd, G2, st, le2, ix⟩ := Y.yld i G H x H' t.g rel.le hl y
    have e : ds.drop i = d :: ds.drop (i + 1) := by
      rw [List.drop_eq_getElem_cons hl]
      have z := hd
      rw [List.getElem?_eq_getElem hl] at z
      rw [Option.some.inj z]
    rw [e, lcD] at post
    have h'L : H' L = some (.lst xs) := st.h _ _ hH
    have g2L : G2 L = none := st.hid L (by rw [hH]; simp) gLw
    have rel2 : Rel K b B G2 H' ω (L2.wipe σ vs) ρ := (rel.step st le2).bare hv wipe_wipe hb
    have t2 : Tr G1 H1 ω1 G2 H' ω := t.trans (.step st)
    have ia2 := ia.mono st.g
    cases eg : Fg d ρ with
    | none => rw [eg] at post; exact post.elim
    | some ρ2 =>
      rw [eg] at post
      dsimp only at post
      refine hm _ _ _ _ _ (fun σ3 H3 z => ⟨z.2.trans wipe_wipe, z.1 (z.2.trans wipe_wipe)⟩) (hk x (L2.wipe σ vs) H' (fun σ3 H3 => L2.wipe σ3 vs = L2.wipe σ vs → tt σ3 H3 _) ?_)
      refine hg b G2 H' ω G2 H' ω (L2.wipe σ vs) ρ rel2 .refl x d (own_frz ix) _ ?_
      rw [eg]
      intro σ3 G3 H3 ω3 rel3 t3 w3
      refine ht b G3 H3 ω3 σ3 ρ2 rel3 _ ?_
      cases eT : T ρ2 with
      | no => rw [eT] at post; exact post.elim
      | ex c ρ4 => rw [eT] at post; exact post.elim
      | ok k ρ4 q4 =>
        rw [eT] at post
        dsimp only at post
        intro k' G4 H4 ω4 rel4 t4 _ ek
        subst ek
        have t34 := t3.trans t4
        cases k' with
        | false =>
          rw [if_neg (by decide)] at post
          obtain ⟨k1, k2⟩ := t34.keep L _ oLw h'L
          exact ⟨G4, ω4, wipeE ρ4 vs, acc, xs, rel4.wipe hv w3.symm, bare_wipe, t2.trans t34, k2, t34.hid L oLw (by rw [h'L]; simp) g2L, k1, ia2.mono t34.g, post⟩
        | true =>
          rw [if_pos rfl] at post
          refine he b G4 H4 ω4 σ3 ρ4 rel4 _ ?_
          cases eF : Fe ρ4 with
          | no => rw [eF] at post; exact post.elim
          | ex c ρ5 => rw [eF] at post; exact post.elim
          | ok e5 ρ5 q5 =>
            rw [eF] at post
            dsimp only at post
            intro y5 G5 H5 ω5 rel5 t5 _ iy
            have t35 := t34.trans t5
            obtain ⟨k1, k2⟩ := t35.keep L _ oLw h'L
            have g5L : G5 L = none := t35.hid L oLw (by rw [h'L]; simp) g2L
            have ia5 := ia2.mono t35.g
            split at post
            · rename_i hz
              exact ⟨xs, k1, by rw [ia.length]; exact hz, G5, ω5, wipeE ρ5 vs, acc ++ [e5], xs ++ [y5], (rel5.aside k2 g5L bL).wipe hv w3.symm, bare_wipe, Tr.aside (t2.trans t35) hL, k2, g5L, upd_same, ia5.append (.cons iy .nil), post⟩
            · exact post.elim
  · have e : i = ds.length := by omega
    subst e
    rw [List.drop_length, lcD] at post
    refine .inl ⟨Y.stop _ G H t.g rel.le (Nat.le_refl _), ?_⟩
    refine post (.ref L) G H ω rel t (fun z => by cases z) ⟨fun a => if a = L then some (0, none) else none, ⟨fun a ha => ?_⟩, .one (.lst (by simp) hH ia)⟩
    by_cases c : a = L
    · subst c
      exact ⟨oLw, gLw, by rw [hH]; simp, bL, .inl hL⟩
    · simp [c] at ha
end
section
variable {X : Cx} {B : By} {W : WX}
structure DTs (X : Cx) (B : By) (es : List Expr) (t : TT) (F : Env → Out Bool) : Prop where
  pts : PTs X es t
  sat : Sat X.K B W0 (EqR Bool) t F
theorem dts_nil : DTs X B [] tYes fYes := ⟨pts_nil, fun b G H ω σ ρ rel Q post => Post.now rel post rfl⟩
theorem dts_one {c : Expr} {t : TT} {F : Env → Out Bool} (h : DT X B W0 c t F) : DTs X B [c] t F := ⟨pts_one h.pt, h.sat⟩
/-- a target of a comprehension -/
structure DK (X : Cx) (B : By) (vs : List Nat) (e : Expr) (g : TG) (F : D → Env → Option Env) : Prop where
  dg : DG X B e g F
  k : KeepG vs g
  m : ∀ v σ H (Q Q' : L2.St → Hp → Prop), (∀ σ' H', Q σ' H' → Q' σ' H') → g v σ H Q → g v σ H Q'
structure DKs (X : Cx) (B : By) (vs : List Nat) (es : List Expr) (g : TGs) (F : List D → Env → Option Env) : Prop where
  dg : DGs X B es g F
  k : KeepGs vs g
  m : ∀ v σ H (Q Q' : L2.St → Hp → Prop), (∀ σ' H', Q σ' H' → Q' σ' H') → g v σ H Q → g v σ H Q'
theorem dk_name {vs : List Nat} {e : Expr} {i : Nat} (h : DG X B e (gName i) (gN B.l i)) (hi : i ∈ vs) : DK X B vs e (gName i) (gN B.l i) := ⟨h, keep_name hi, mono_name⟩
theorem dks_nil {vs : List Nat} : DKs X B vs [] gNil gsNil := ⟨dgs_nil, keep_nil, monos_nil⟩
theorem dks_cons {vs : List Nat} {e : Expr} {es : List Expr} {g : TG} {gs : TGs} {F : D → Env → Option Env} {Fr : List D → Env → Option Env} (h : DK X B vs e g F) (h' : DKs X B vs es gs Fr)
    (hs : (assignEach (e :: es) X.env).map (·.2) = assign e X.env :: (assignEach es X.env).map (·.2) := by rfl) : DKs X B vs (e :: es) (gCons g gs) (gsCons F Fr) := ⟨dgs_cons h.dg h'.dg hs, keep_cons h.k h'.k h.m, monos_cons h.m h'.m⟩
theorem dk_tup {vs : List Nat} {es : List Expr} {k n : Nat} {pos : Pos} {gs : TGs} {Fr : List D → Env → Option Env} (hc : X.calm = true) (h : DKs X B vs es gs Fr)
    (hn : (assignEach es X.env).length = n := by rfl) (hst : (assignEach es X.env).findIdx? (·.1) = none := by rfl) : DK X B vs (.Tuple es k pos) (gTup X.K n gs) (gT n Fr) := ⟨dg_tup hc h.dg hn hst, keep_tup h.k, mono_tup h.m⟩
end
section
variable {X : Cx} {B : By} {W : WX} {elt tg iter : Expr} {ifs : List Expr} {scope : Scope} {own : List (Str × Nat)} {pos : Pos} {wi : TI} {g : TG} {tt : TT} {te : TE} {F : Env → Out (List D)} {Fg : D → Env → Option Env} {T : Env → Out Bool} {Fe : Env → Out D}
/-- one comprehension: as a value, or to be stored -/
theorem o_lc (hc : X.calm = true) (hN : X.N.Nodup) (hi : DI X B W tg iter wi F) (ok : BlkOk X.N X.env.scope scope own)
    (hg : ∀ (s : Shared) (H : Hp) (C : Addr) (cl : List (Str × Addr)) (fp : List Addr), DK (X.blk s H scope (compEnvC scope cl C X.env) fp) B (own.map (·.2)) tg g Fg)
    (ht : ∀ (s : Shared) (H : Hp) (C : Addr) (cl : List (Str × Addr)) (fp : List Addr), DTs (X.blk s H scope (compEnvC scope cl C X.env) fp) B ifs tt T)
    (he : ∀ (s : Shared) (H : Hp) (C : Addr) (cl : List (Str × Addr)) (fp : List Addr), DE (X.blk s H scope (compEnvC scope cl C X.env) fp) B W0 elt te Fe)
    (hv : ∀ i ∈ own.map (·.2), i ∉ B.l := by decide) (hs : ∀ x, foldedSetIterable iter X.env x = pure x := by intro _; rfl) : DO X B W (.ListComp elt [⟨tg, iter, ifs, 0⟩] scope pos) (tLc wi g tt te (own.map (·.2))) (fLc (own.map (·.2)) F Fg T Fe) := by
  refine ⟨pe_lc hc hN hi.pi ok (fun s H C cl fp => (hg s H C cl fp).dg.pg) (fun s H C cl fp => (ht s H C cl fp).pts) (fun s H C cl fp => (he s H C cl fp).pe) hs, ?_⟩
  exact sat_lc hi.sat (hg X.s_0 X.H_0 0 [] []).dg.sat (hg X.s_0 X.H_0 0 [] []).k (hg X.s_0 X.H_0 0 [] []).m (ht X.s_0 X.H_0 0 [] []).sat (he X.s_0 X.H_0 0 [] []).sat hv
theorem ds_setLc (i : Nat) {y : Str} {py spos : Pos} (hc : X.calm = true) (hN : X.N.Nodup) (hi : DI X B W tg iter wi F) (ok : BlkOk X.N X.env.scope scope own)
    (hg : ∀ (s : Shared) (H : Hp) (C : Addr) (cl : List (Str × Addr)) (fp : List Addr), DK (X.blk s H scope (compEnvC scope cl C X.env) fp) B (own.map (·.2)) tg g Fg)
    (ht : ∀ (s : Shared) (H : Hp) (C : Addr) (cl : List (Str × Addr)) (fp : List Addr), DTs (X.blk s H scope (compEnvC scope cl C X.env) fp) B ifs tt T)
    (he : ∀ (s : Shared) (H : Hp) (C : Addr) (cl : List (Str × Addr)) (fp : List Addr), DE (X.blk s H scope (compEnvC scope cl C X.env) fp) B W0 elt te Fe)
    (hsw : swapsWith (.ListComp elt [⟨tg, iter, ifs, 0⟩] scope pos) (some (.Name y py)) spos.line X.env = pure true)
    (hv : ∀ i ∈ own.map (·.2), i ∉ B.l := by decide) (hy : X.N[i]? = some y := by rfl) (hyl : X.env.scope.names.lookup y = some .local := by rfl) (hs : ∀ x, foldedSetIterable iter X.env x = pure x := by intro _; rfl) :
    DS X B W (.Assign [.Name y py] (.ListComp elt [⟨tg, iter, ifs, 0⟩] scope pos) spos) (tAsg (tLc wi g tt te (own.map (·.2))) (gName i)) (sAsg (fLc (own.map (·.2)) F Fg T Fe) (gN B.l i)) :=
  ⟨ps_setLc hc hN hy hyl hsw hi.pi ok (fun s H C cl fp => (hg s H C cl fp).dg.pg) (fun s H C cl fp => (ht s H C cl fp).pts) (fun s H C cl fp => (he s H C cl fp).pe) hs,
    ss_asg (sat_lc hi.sat (hg X.s_0 X.H_0 0 [] []).dg.sat (hg X.s_0 X.H_0 0 [] []).k (hg X.s_0 X.H_0 0 [] []).m (ht X.s_0 X.H_0 0 [] []).sat (he X.s_0 X.H_0 0 [] []).sat hv) sg_name⟩
end
end DL
set_option Elab.async false
set_option linter.all false
set_option maxRecDepth 100000
set_option maxHeartbeats 1000000
namespace DL
open PySem PySem.Spec PyProof.Rows L2

/-! ### what a def does to data: its first nb arguments may be changed (they are handed back) -/
def allSome : List (Option D) → Option (List D)
  | [] => some []
  | some d :: r => (allSome r).map (d :: ·)
  | none :: _ => none
def start0 (n : Nat) (ds : List D) : Env := ds.map some ++ List.replicate (n - ds.length) none
def toF (nb : Nat) (o : SOut) : FOut := match o with
  | .nx ρ => (match allSome (ρ.take nb) with
    | some bs => .ok .non bs
    | none => .no)
  | .rt d ρ => (match allSome (ρ.take nb) with
    | some bs => .ok d bs
    | none => .no)
  | .ex c ρ => (match allSome (ρ.take nb) with
    | some bs => .ex c bs
    | none => .no)
  | _ => .no
def runF (nb n : Nat) (F : Env → SOut) (ds : List D) : FOut := toF nb (F (start0 n ds))
theorem allSome_get : ∀ {l : List (Option D)} {bs : List D}, allSome l = some bs → l = bs.map some
  | [], bs, h => by simp only [allSome, Option.some.injEq] at h; subst h; rfl
  | some d :: r, bs, h => by
    simp only [allSome] at h
    cases e : allSome r with
    | none => rw [e] at h; cases h
    | some cs => rw [e] at h; cases h; rw [allSome_get e]; rfl
  | none :: r, bs, h => by simp [allSome] at h
structure FEnd (K : PySem.W.Frag) (nb : Nat) (G H : Hp) (ω : Lb) (vs : List V) (bs : List D) (G' H' : Hp) (ω' : Lb) : Prop where
  le : Same G' H'
  g : Same G G'
  keep : ∀ a o, ω a = none → H a = some o → H' a = some o
  dom : ∀ a, H' a = none → H a = none
  hid : ∀ a, H a ≠ none → G a = none → G' a = none
  own : ∀ a l, ω' a = some l → l.1 < nb ∧ G' a = none ∧ H' a ≠ none ∧ (H a = none ∨ ∃ p, ω a = some (l.1, p))
  len : bs.length = nb
  arg : ∀ (i : Nat) (e : D), bs[i]? = some e → ∃ u, vs[i]? = some u ∧ Own K G' H' ω' i u e
def PostF (K : PySem.W.Frag) (nb : Nat) (G H : Hp) (ω : Lb) (vs : List V) (Q : VK) (E : XK) : FOut → Prop
  | .ok d bs => ∀ v G' H' ω' ωt, FEnd K nb G H ω vs bs G' H' ω' → (∀ a, ωt a ≠ none → ω' a = none ∧ G' a = none ∧ H' a ≠ none ∧ H a = none) → Own K G' H' ωt 0 v d → Q v H'
  | .ex c bs => ∀ cls dd G' H' ω', FEnd K nb G H ω vs bs G' H' ω' → IsX K G' H' c cls dd → E cls dd H'
  | .no => False
def spOf (K : PySem.W.Frag) (nb np : Nat) (m : List D → FOut) : Sp := fun vs H Q E => ∃ (ds : List D) (G : Hp) (ω : Lb), vs.length = np ∧ vs.length = ds.length ∧ nb ≤ np ∧ Same G H ∧ (∀ a l, ω a = some l → l.1 < nb ∧ G a = none ∧ H a ≠ none) ∧
  (∀ (i : Nat) (d : D), ds[i]? = some d → ∃ v, vs[i]? = some v ∧ Own K G H ω i v d) ∧ PostF K nb G H ω vs Q E (m ds)

section
variable {K : PySem.W.Frag} {nb : Nat} {N : List Str}
theorem start_get {vs : List V} {i : Nat} {v : V} (h : vs[i]? = some v) : (L2.start N vs)[i]? = some (some v) := by
  have hl : i < vs.length := (List.getElem?_eq_some_iff.mp h).1
  unfold L2.start
  rw [List.getElem?_append_left (by rw [List.length_map]; exact hl), List.getElem?_map, h]
  rfl
theorem start0_get {n : Nat} {ds : List D} {i : Nat} {d : D} (h : (start0 n ds)[i]? = some (some d)) : ds[i]? = some d := by
  unfold start0 at h
  by_cases hl : i < ds.length
  · rw [List.getElem?_append_left (by rw [List.length_map]; exact hl), List.getElem?_map] at h
    cases e : ds[i]? with
    | none => rw [e] at h; cases h
    | some x => rw [e] at h; cases h; rfl
  · rw [List.getElem?_append_right (by rw [List.length_map]; omega), List.getElem?_replicate] at h
    split at h <;> cases h
/-- a body does what its data say -/
theorem body_ok {t : TS} {F : Env → SOut} {vs : List V} {H : Hp} {Q : VK} {E : XK} {np : Nat} (hb : SatS K ⟨List.range nb, []⟩ (fun cls d _ H => E cls d H) t F) (hn : np ≤ N.length) (h : spOf K nb np (runF nb N.length F) vs H Q E) :
    t { nx := fun _ H' => Q .non H', rt := Q } (L2.start N vs) H := by
  obtain ⟨ds, G, ω, l1, l2, l3, le, own, arg, post⟩ := h
  have rel : Rel K ⟨G, H, ω, L2.start N vs⟩ ⟨List.range nb, []⟩ G H ω (L2.start N vs) (start0 N.length ds) := by
    refine ⟨le, Same.refl _, fun a o _ e => e, fun a e => e, fun a _ g => g, fun a l q => ⟨(own a l q).2.1, (own a l q).2.2, .inr ⟨l.2, q⟩⟩, fun a l q => List.mem_range.mpr (own a l q).1, ?_, fun i d e => ?_, fun i hi => rfl, fun p hp => by cases hp⟩
    · unfold L2.start start0
      rw [List.length_append, List.length_append, List.length_map, List.length_map, List.length_replicate, List.length_replicate, l2]
    · obtain ⟨v, h1, h2⟩ := arg i d (start0_get e)
      exact ⟨v, start_get h1, h2⟩
  refine hb _ G H ω _ _ rel _ ?_
  -- the end of a run as its caller sees it
  have fin : ∀ {σ' : L2.St} {ρ' : Env} {G' H' : Hp} {ω' : Lb} {bs : List D}, Rel K ⟨G, H, ω, L2.start N vs⟩ ⟨List.range nb, []⟩ G' H' ω' σ' ρ' → allSome (ρ'.take nb) = some bs →
      FEnd K nb G H ω vs bs G' H' (fun a => match ω' a with | some (i, p) => if i < nb then some (i, p) else none | none => none) := by
    intro σ' ρ' G' H' ω' bs r e
    have eb := allSome_get e
    have lb : bs.length = nb := by
      have z := congrArg List.length eb
      rw [List.length_map, List.length_take, ← r.len] at z
      have hσ : σ'.length = N.length ∨ True := .inr trivial
      by_cases hk : nb ≤ σ'.length
      · omega
      · -- every by-ref slot stands as at the entry
        have q := r.byr (nb - 1) (List.mem_range.mpr (by omega))
        have q2 : (L2.start N vs)[nb - 1]? ≠ none := by
          have hv : nb - 1 < vs.length := by omega
          rw [start_get (v := vs[nb - 1]) (by simp [hv])]
          simp
        rw [← q] at q2
        exact absurd (List.getElem?_eq_none (by omega)) q2
    refine ⟨r.le, r.leG, r.old, r.dom, r.fr, fun a l q => ?_, lb, fun i e' h => ?_⟩
    · cases z : ω' a with
      | none => simp only [z] at q; cases q
      | some m =>
        obtain ⟨i, p⟩ := m
        simp only [z] at q
        by_cases hi : i < nb
        · rw [if_pos hi] at q
          cases q
          obtain ⟨y1, y2, y3⟩ := r.own a (i, p) z
          exact ⟨hi, y1, y2, y3⟩
        · rw [if_neg hi] at q; cases q
    · have hi : i < nb := by rw [← lb]; exact (List.getElem?_eq_some_iff.mp h).1
      have hρ : ρ'[i]? = some (some e') := by
        have z : (ρ'.take nb)[i]? = (bs.map some)[i]? := by rw [eb]
        rw [List.getElem?_take_of_lt hi, List.getElem?_map, h] at z
        exact z
      obtain ⟨u, h1, h2⟩ := r.slot i e' hρ
      have q := r.byr i (List.mem_range.mpr hi)
      have hv : i < vs.length := by omega
      rw [start_get (v := vs[i]) (by simp [hv]), h1] at q
      cases q
      exact ⟨vs[i], by simp [hv], h2.go (Same.refl _) fun a p q => ⟨by simp only [q]; rw [if_pos hi], rfl⟩⟩
  unfold runF toF at post
  cases e : F (start0 N.length ds) with
  | no => rw [e] at post; exact post.elim
  | bk ρ1 => rw [e] at post; exact post.elim
  | ct ρ1 => rw [e] at post; exact post.elim
  | nx ρ1 =>
    rw [e] at post
    dsimp only at post
    cases e2 : allSome (ρ1.take nb) with
    | none => rw [e2] at post; exact post.elim
    | some bs =>
      rw [e2] at post
      exact fun σ' G' H' ω' r _ => post .non G' H' _ (fun _ => none) (fin r e2) (fun a z => absurd rfl z) (.frz .non)
  | rt d ρ1 =>
    rw [e] at post
    dsimp only at post
    cases e2 : allSome (ρ1.take nb) with
    | none => rw [e2] at post; exact post.elim
    | some bs =>
      rw [e2] at post
      rintro v σ' G' H' ω' r _ ⟨ωt, T, o⟩
      refine post v G' H' _ ωt (fin r e2) (fun a z => ?_) o
      obtain ⟨y1, y2, y3, y4, _⟩ := T.at' a z
      exact ⟨by simp only [y1], y2, y3, y4⟩
  | ex c ρ1 =>
    rw [e] at post
    dsimp only at post
    cases e2 : allSome (ρ1.take nb) with
    | none => rw [e2] at post; exact post.elim
    | some bs =>
      rw [e2] at post
      exact fun cls dd σ' G' H' ω' r _ i => post cls dd G' H' _ (fin r e2) i
theorem sp_len {np : Nat} {m : List D → FOut} {ps : List Str} (h : ps.length = np) : ∀ vs H Q E, spOf K nb np m vs H Q E → vs.length = ps.length := fun vs H Q E ⟨_, _, _, l1, _⟩ => l1.trans h.symm
end
section
variable {P : Program} {w : World} {K : PySem.W.Frag} {mg : Str → Option Value} {base : Heap} {nb : Nat}
/-- THE RULE for a def: its body's judgement -/
theorem fn_d {x qual : Str} {st : Stmt} {f : Addr} {fd : FuncData} {N ps : List Str} {k : Nat} {Fb : Env → SOut} (F : Fun K x qual st f fd) (S : FnScope N ps (defScope st))
    (hbody : ∀ (cdv : Value) (A : Around) (outer : List PySem.Env) (s : Shared) (H : Hp) (E : XK), Room k (A.deeper (envOfC qual (defScope st) s.heap.objs.size f cdv)) →
      ∃ t, DSs (cxOf (L2.CX P w) P w K mg base N qual (defScope st) f cdv A outer s H E) ⟨List.range nb, []⟩ (fun cls d _ H => E cls d H) (defBody st) t Fb) (hn : ps.length ≤ N.length := by decide) :
    FnOk P w K mg base (L2.CX P w) (k + 1) f fd ps (spOf K nb ps.length (runF nb N.length Fb)) := by
  refine F.okX S (sp_len rfl) fun cdv A outer s H vs Q E hr h => ?_
  obtain ⟨t, d⟩ := hbody cdv A outer s H E hr
  exact ⟨t, d.ps, body_ok d.sat hn h⟩
theorem fn_dD {x qual : Str} {params : Arguments} {body : List Stmt} {scope : Scope} {dvs : List V} {kws : List (Str × V)} {f : Addr} {fd : FuncData} {N ps : List Str} {k : Nat} {Fb : Env → SOut} (F : FunD K x qual params body scope dvs kws f fd) (S : FnScope N ps scope)
    (hbody : ∀ (cdv : Value) (A : Around) (outer : List PySem.Env) (s : Shared) (H : Hp) (E : XK), Room k (A.deeper (envOfC qual scope s.heap.objs.size f cdv)) →
      ∃ t, DSs (cxOf (L2.CX P w) P w K mg base N qual scope f cdv A outer s H E) ⟨List.range nb, []⟩ (fun cls d _ H => E cls d H) body t Fb) (hn : ps.length ≤ N.length := by decide) :
    FnOk P w K mg base (L2.CX P w) (k + 1) f fd ps (spOf K nb ps.length (runF nb N.length Fb)) := by
  refine F.ok S (sp_len rfl) fun cdv A outer s H vs Q E hr h => ?_
  obtain ⟨t, d⟩ := hbody cdv A outer s H E hr
  exact ⟨t, d.ps, body_ok d.sat hn h⟩
/-- a contract by other data -/
theorem fn_eq {f : Addr} {fd : FuncData} {ps : List Str} {k np : Nat} {m m' : List D → FOut} (h : FnOk P w K mg base (L2.CX P w) k f fd ps (spOf K nb np m)) (e : m = m') : FnOk P w K mg base (L2.CX P w) k f fd ps (spOf K nb np m') := by
  subst e; exact h
end

/-! ### calls -/
def getAll (ρ : Env) : List Nat → Option (List D)
  | [] => some []
  | j :: js => match ρ[j]?, getAll ρ js with
    | some (some d), some ds => some (d :: ds)
    | _, _ => none
def putAll (ρ : Env) : List Nat → List D → Env
  | j :: js, d :: ds => putAll (ρ.set j (some d)) js ds
  | _, _ => ρ
def callO (js : List Nat) (o : FOut) (ρ : Env) : Out D := match o with
  | .ok d bs => .ok d (putAll ρ js bs) js.isEmpty
  | .ex c bs => .ex c (putAll ρ js bs)
  | .no => .no
def fCall (js : List Nat) (m : List D → FOut) (F : Env → Out (List D)) : Env → Out D := fun ρ => (F ρ).bind fun as ρ1 => match getAll ρ1 js with
  | some ds => callO js (m (ds ++ as)) ρ1
  | none => .no
/-- the slots' values -/
abbrev Looked (σ : L2.St) : List Nat → List V → Prop := Paired fun (j : Nat) (v : V) => σ[j]? = some (some v)
abbrev ArgR (K : PySem.W.Frag) (σ : L2.St) (js : List Nat) : Rep (List D) (List V) := fun _ _ _ G _ _ vs ds => ∃ vb vv, vs = vb ++ vv ∧ Looked σ js vb ∧ IsAll K G vv ds
instance {K : PySem.W.Frag} {σ : L2.St} {js : List Nat} : Back (ArgR K σ js) := ⟨fun _ h => h⟩
def SatB (K : PySem.W.Frag) (B : By) (W : WX) (js : List Nat) (t : TA) (F : Env → Out (List D)) : Prop := ∀ b G H ω σ ρ, Rel K b B G H ω σ ρ → ∀ Q, Post K B W b G H ω σ (ArgR K σ js) Q (F ρ) → t σ H Q
structure DB (X : Cx) (B : By) (W : WX) (js : List Nat) (es : List Expr) (t : TA) (F : Env → Out (List D)) : Prop where
  pa : PA X es t
  sat : SatB X.K B W js t F
def fRef (j : Nat) (F : Env → Out (List D)) : Env → Out (List D) := fun ρ => match ρ[j]? with
  | some (some _) => F ρ
  | _ => .no
/-- defaults behind the written values -/
def fDfl (ds : List D) (F : Env → Out (List D)) : Env → Out (List D) := fun ρ => (F ρ).bind fun as ρ1 => .ok (as ++ ds) ρ1 true
section
variable {X : Cx} {B : By} {W : WX} {e : Expr} {es : List Expr} {te : TE} {t : TA} {Fe : Env → Out D} {F : Env → Out (List D)} {js : List Nat}
theorem db_of (h : DA X B W es t F) : DB X B W [] es t F := ⟨h.pa, fun b G H ω σ ρ rel Q post => h.sat b G H ω σ ρ rel Q (by
  cases c : F ρ with
  | no => rw [c] at post; exact post
  | ex c' ρ' => rw [c] at post; exact post
  | ok d ρ' q => rw [c] at post; exact fun v G' H' ω' r s f i => post v G' H' ω' r s f ⟨[], v, rfl, .nil, i⟩)⟩
theorem db_cons (j : Nat) {x : Str} {pos : Pos} (h : DB X B W js es t F) (hN : X.N[j]? = some x := by rfl) (hv : Vis X.env.scope x := by first | exact Or.inl rfl | exact Or.inr (Or.inl rfl) | exact Or.inr (Or.inr rfl)) (hd : (x == ("__debug__" : Str)) = false := by decide)
    (hcd : (x == ("__classdict__" : Str)) = false := by decide) (hs : starEach (.Name x pos :: es) X.env = (false, eval (.Name x pos) X.env) :: starEach es X.env := by rfl) : DB X B W (j :: js) (.Name x pos :: es) (tCons (tVar j) t) (fRef j F) := by
  refine ⟨pa_cons (pe_var hN hv hd hcd) h.pa hs, fun b G H ω σ ρ rel Q post => ?_⟩
  unfold fRef at post
  split at post
  · rename_i d e
    obtain ⟨v, h1, _⟩ := rel.slot j d e
    refine ⟨v, h1, h.sat b G H ω σ ρ rel _ ?_⟩
    cases c : F ρ with
    | no => rw [c] at post; exact post
    | ex c' ρ' => rw [c] at post; exact post
    | ok d ρ' q =>
      rw [c] at post
      rintro vs G' H' ω' r s f ⟨vb, vv, rfl, l, i⟩
      exact post _ G' H' ω' r s f ⟨v :: vb, vv, rfl, .cons h1 l, i⟩
  · exact post.elim
end
section
variable {K : PySem.W.Frag} {B : By} {W : WX} {b : Bs} {G H : Hp} {ω : Lb} {σ : L2.St} {ρ : Env}
theorem getAll_get : ∀ {js : List Nat} {ds : List D} {i j : Nat}, getAll ρ js = some ds → js[i]? = some j → ∃ d, ds[i]? = some d ∧ ρ[j]? = some (some d)
  | [], ds, i, j, h, e => by simp at e
  | k :: js, ds, i, j, h, e => by
    unfold getAll at h
    split at h
    · rename_i d es h1 h2
      cases h
      cases i with
      | zero => simp at e; subst e; exact ⟨d, rfl, h1⟩
      | succ i => exact getAll_get (i := i) h2 (by simpa using e)
    · cases h
theorem getAll_len : ∀ {js : List Nat} {ds : List D}, getAll ρ js = some ds → ds.length = js.length
  | [], ds, h => by simp only [getAll, Option.some.injEq] at h; subst h; rfl
  | k :: js, ds, h => by
    unfold getAll at h
    split at h
    · rename_i d es h1 h2
      cases h
      rw [List.length_cons, List.length_cons, getAll_len h2]
    · cases h
theorem putAll_len : ∀ {js : List Nat} {ds : List D} {ρ : Env}, (putAll ρ js ds).length = ρ.length
  | [], _, _ => rfl
  | _ :: _, [], _ => rfl
  | j :: js, d :: ds, ρ => by unfold putAll; rw [putAll_len, List.length_set]
theorem putAll_get : ∀ {js : List Nat} {bs : List D} {ρ : Env} {k : Nat} {d : D}, js.Nodup → bs.length = js.length → (putAll ρ js bs)[k]? = some (some d) → (∃ i : Nat, js[i]? = some k ∧ bs[i]? = some d) ∨ (k ∉ js ∧ ρ[k]? = some (some d))
  | [], [], ρ, k, d, _, _, h => .inr ⟨by simp, h⟩
  | j :: js, c :: bs, ρ, k, d, nd, hl, h => by
    unfold putAll at h
    have nd' := List.nodup_cons.mp nd
    rcases putAll_get nd'.2 (by simpa using hl) h with ⟨i, h1, h2⟩ | ⟨h1, h2⟩
    · exact .inl ⟨i + 1, by simpa using h1, by simpa using h2⟩
    · rw [List.getElem?_set] at h2
      split at h2
      · rename_i e
        subst e
        split at h2
        · cases h2; exact .inl ⟨0, rfl, rfl⟩
        · cases h2
      · rename_i e
        exact .inr ⟨by simp only [List.mem_cons, not_or]; exact ⟨fun z => e z.symm, h1⟩, h2⟩
  | [], _ :: _, ρ, k, d, _, hl, h => by simp at hl
  | _ :: _, [], ρ, k, d, _, hl, h => by simp at hl
theorem looked_get : ∀ {js : List Nat} {vs : List V} {i j : Nat}, Looked σ js vs → js[i]? = some j → ∃ v, vs[i]? = some v ∧ σ[j]? = some (some v)
  | _, _, i, j, .nil, e => by simp at e
  | _, _, 0, j, .cons h r, e => by simp at e; subst e; exact ⟨_, rfl, h⟩
  | _, _, i + 1, j, .cons h r, e => by
    obtain ⟨v, h1, h2⟩ := looked_get (i := i) r (by simpa using e)
    exact ⟨v, by simpa using h1, h2⟩
theorem looked_len {js : List Nat} {vs : List V} (h : Looked σ js vs) : vs.length = js.length := (Paired.length h).symm
/-- the labels as the callee sees them -/
def toCallee (js : List Nat) (ω : Lb) : Lb := fun a => match ω a with
  | some (j, p) => if j ∈ js then some (js.idxOf j, p) else none
  | none => none
/-- and back -/
def toCaller (js : List Nat) (ω ω' : Lb) : Lb := fun a => match ω' a with
  | some (i, p) => (js[i]?).map fun j => (j, p)
  | none => if (toCallee js ω a).isSome then none else ω a
theorem callee_some {js : List Nat} {a : Addr} {i : Nat} {p : Option Str} (h : toCallee js ω a = some (i, p)) : ∃ j, js[i]? = some j ∧ ω a = some (j, p) := by
  unfold toCallee at h
  cases q : ω a with
  | none => rw [q] at h; cases h
  | some l =>
    rw [q] at h
    obtain ⟨j, p'⟩ := l
    by_cases c : j ∈ js
    · simp only [c, if_true] at h
      cases h
      exact ⟨j, by rw [List.getElem?_eq_getElem (List.idxOf_lt_length_of_mem c), List.getElem_idxOf], rfl⟩
    · simp [c] at h
theorem callee_of {js : List Nat} {a : Addr} {i j : Nat} {p : Option Str} (nd : js.Nodup) (h : ω a = some (j, p)) (e : js[i]? = some j) : toCallee js ω a = some (i, p) := by
  unfold toCallee
  rw [h]
  have c : j ∈ js := List.mem_of_getElem? e
  simp only [c, if_true]
  have hi : i < js.length := (List.getElem?_eq_some_iff.mp e).1
  have e1 : js[js.idxOf j]? = js[i]? := by rw [e, List.getElem?_eq_getElem (List.idxOf_lt_length_of_mem c), List.getElem_idxOf]
  have e2 : js.idxOf j = i := (List.getElem?_inj (List.idxOf_lt_length_of_mem c) nd).mp e1
  rw [e2]
theorem callee_none {js : List Nat} {a : Addr} (h : ω a = none) : toCallee js ω a = none := by unfold toCallee; rw [h]
/-- behind a call -/
theorem Rel.called (R : Rel K b B G H ω σ ρ) {js : List Nat} {vb vv : List V} {bs : List D} {G' H' : Hp} {ω' : Lb} (nd : js.Nodup) (hl : Looked σ js vb) (E : FEnd K js.length G H (toCallee js ω) (vb ++ vv) bs G' H' ω') :
    Rel K b B G' H' (toCaller js ω ω') σ (putAll ρ js bs) ∧ Tr G H ω G' H' (toCaller js ω ω') := by
  have kk : ∀ {a : Addr}, ω a = none → H a ≠ none → ω' a = none := fun {a} h1 h2 => by
    cases q : ω' a with
    | none => rfl
    | some l =>
      rcases (E.own a l q).2.2.2 with z | ⟨p, z⟩
      · exact absurd z h2
      · obtain ⟨j, _, y⟩ := callee_some z
        rw [h1] at y; cases y
  refine ⟨⟨E.le, R.leG.trans E.g, fun a o h1 h2 => ?_, fun a h => R.dom a (E.dom a h), fun a h g => E.hid a (fun z => h (R.dom a z)) (R.fr a h g), fun a l q => ?_, R.bB, by rw [putAll_len]; exact R.len, fun k d h => ?_, R.byr, R.pin⟩,
    ⟨E.g, fun a o h e => ⟨E.keep a o (callee_none h) e, ?_⟩, fun a h e g => E.hid a e g, E.dom⟩⟩
  · have h3 := R.old a o h1 h2
    refine E.keep a o (callee_none ?_) h3
    cases q : ω a with
    | none => rfl
    | some l =>
      rcases (R.own a l q).2.2 with z | ⟨p, z⟩
      · rw [z] at h2; cases h2
      · rw [z] at h1; cases h1
  · unfold toCaller at q
    cases z : ω' a with
    | some m =>
      obtain ⟨i, p⟩ := m
      simp only [z] at q
      obtain ⟨y1, y2, y3, y4⟩ := E.own a (i, p) z
      cases w : js[i]? with
      | none => rw [w] at q; cases q
      | some j =>
        rw [w] at q
        cases q
        refine ⟨y2, y3, ?_⟩
        rcases y4 with y4 | ⟨p', y4⟩
        · exact .inl (R.dom a y4)
        · obtain ⟨j', x1, x2⟩ := callee_some y4
          rw [w] at x1
          cases x1
          exact (R.own a (j, p') x2).2.2
    | none =>
      simp only [z] at q
      cases w : toCallee js ω a with
      | some m => rw [w] at q; simp at q
      | none =>
        rw [w] at q
        have q' : ω a = some l := by simpa using q
        obtain ⟨y1, y2, y3⟩ := R.own a l q'
        obtain ⟨o, y4⟩ := some_of_ne y2
        exact ⟨E.hid a y2 y1, by rw [E.keep a o w y4]; simp, y3⟩
  · rcases putAll_get nd E.len h with ⟨i, h1, h2⟩ | ⟨h1, h2⟩
    · obtain ⟨u, h3, h4⟩ := E.arg i d h2
      obtain ⟨v, h5, h6⟩ := looked_get hl h1
      have hi : i < vb.length := (List.getElem?_eq_some_iff.mp h5).1
      rw [List.getElem?_append_left hi, h5] at h3
      cases h3
      refine ⟨_, h6, h4.go (Same.refl _) fun a p q => ⟨?_, rfl⟩⟩
      unfold toCaller
      simp only [q, h1]
      rfl
    · obtain ⟨v, h3, h4⟩ := R.slot k d h2
      refine ⟨v, h3, h4.go E.g fun a p q => ?_⟩
      have c1 : toCallee js ω a = none := by
        unfold toCallee
        rw [q]
        simp only [h1, if_false]
      obtain ⟨o, y4⟩ := some_of_ne (R.own a _ q).2.1
      have c2 : ω' a = none := by
        cases z : ω' a with
        | none => rfl
        | some l =>
          rcases (E.own a l z).2.2.2 with x | ⟨p', x⟩
          · rw [y4] at x; cases x
          · rw [c1] at x; cases x
      refine ⟨?_, by rw [E.keep a o c1 y4, y4]⟩
      unfold toCaller
      simp only [c2, c1]
      simpa using q
  · unfold toCaller
    simp only [kk h (by rw [e]; simp), callee_none h]
    simpa using h
/-- a call with the slots js handed on -/
theorem call_core {np : Nat} {m : List D → FOut} {js : List Nat} {vb vv : List V} {db dv : List D} {Q : VK} (R : Rel K b B G H ω σ ρ) (nd : js.Nodup) (hl : Looked σ js vb) (iv : IsAll K G vv dv) (hg : getAll ρ js = some db) (hn : vb.length + vv.length = np) (h0 : js.length ≤ np)
    (post : Post K B W b G H ω σ (OwnR K) Q (callO js (m (db ++ dv)) ρ)) : spOf K js.length np m (vb ++ vv) H Q (fun cls d H' => W cls d σ H') := by
  have lb := looked_len hl
  have ld := getAll_len hg
  refine ⟨db ++ dv, G, toCallee js ω, by rw [List.length_append]; exact hn, by rw [List.length_append, List.length_append, lb, ld, iv.length], h0, R.le, fun a l q => ?_, fun i d h => ?_, ?_⟩
  · obtain ⟨i, p⟩ := l
    obtain ⟨j, h1, h2⟩ := callee_some q
    obtain ⟨y1, y2, _⟩ := R.own a _ h2
    exact ⟨(List.getElem?_eq_some_iff.mp h1).1, y1, y2⟩
  · by_cases hi : i < db.length
    · rw [List.getElem?_append_left hi] at h
      have hj : i < js.length := by rw [← ld]; exact hi
      obtain ⟨d', h1, h2⟩ := getAll_get hg (i := i) (j := js[i]) (by simp [hj])
      rw [h] at h1
      cases h1
      obtain ⟨v, h3, h4⟩ := looked_get hl (i := i) (j := js[i]) (by simp [hj])
      obtain ⟨u, h5, h6⟩ := R.slot _ d h2
      rw [h4] at h5
      cases h5
      have hi' : i < vb.length := by rw [lb]; exact hj
      exact ⟨v, by rw [List.getElem?_append_left hi']; exact h3, h6.go (Same.refl _) fun a p q => ⟨callee_of nd q (by simp [hj]), rfl⟩⟩
    · rw [List.getElem?_append_right (by omega)] at h
      obtain ⟨v, h1, h2⟩ := iv.get' h
      exact ⟨v, by rw [List.getElem?_append_right (by omega), lb, ← ld]; exact h1, .frz h2⟩
  · cases e : m (db ++ dv) with
    | no => rw [e] at post; exact post.elim
    | ex c bs =>
      rw [e] at post
      intro cls dd G' H' ω' E i
      obtain ⟨r, t⟩ := R.called nd hl E
      exact post cls dd G' H' _ r t i
    | ok d bs =>
      rw [e] at post
      intro v G' H' ω' ωt E T o
      obtain ⟨r, t⟩ := R.called nd hl E
      refine post v G' H' _ r t (fun hq => ?_) ⟨ωt, ⟨fun a z => ?_⟩, o⟩
      · have ej : js = [] := by simpa using hq
        subst ej
        have h1 : ∀ a, toCallee [] ω a = none := fun a => by
          unfold toCallee
          cases ω a with
          | none => rfl
          | some l => rfl
        have h2 : ∀ a, ω' a = none := fun a => by
          cases z : ω' a with
          | none => rfl
          | some l => exact absurd (E.own a l z).1 (by simp)
        refine ⟨?_, fun a o h => E.keep a o (h1 a) h⟩
        funext a
        unfold toCaller
        simp only [h2 a, h1 a]
        rfl
      · obtain ⟨y1, y2, y3, y4⟩ := T a z
        refine ⟨?_, y2, y3, R.dom a y4, .inl y4⟩
        unfold toCaller
        simp only [y1]
        cases q : ω a with
        | none => simp
        | some l => exact absurd y4 (R.own a l q).2.1
end
end DL
set_option Elab.async false
set_option linter.all false
set_option maxRecDepth 100000
set_option maxHeartbeats 1000000
namespace DL
open PySem PySem.Spec PyProof.Rows L2

/-! ### built-in functions -/
def unInts : List D → Option (List Int)
  | [] => some []
  | .int i :: r => (unInts r).map (i :: ·)
  | _ :: _ => none
def unBls : List D → Option (List Bool)
  | [] => some []
  | .bl i :: r => (unBls r).map (i :: ·)
  | _ :: _ => none
def unStrs : List D → Option (List Str)
  | [] => some []
  | .str i :: r => (unStrs r).map (i :: ·)
  | _ :: _ => none
def lenD : List D → Res
  | [.str x] => if x.length ≤ sizeLine then .val (.int (x.length : Nat)) else .no
  | [.tup ds] => .val (.int (ds.length : Nat))
  | [.ro ds] => .val (.int (ds.length : Nat))
  | [.lst _ ds] => .val (.int (ds.length : Nat))
  | _ => .no
def absD : List D → Res
  | [.int i] => .val (.int (if i < 0 then -i else i))
  | _ => .no
def maxD : List D → Res
  | [.int i, .int j] => .val (.int (if j > i then j else i))
  | _ => .no
def minD : List D → Res
  | [.int i, .int j] => .val (.int (if j < i then j else i))
  | _ => .no
def intD : List D → Res
  | [.int i] => .val (.int i)
  | [.bl k] => .val (.int (if k then 1 else 0))
  | _ => .no
def strD : List D → Res
  | [.int i] => if i.natAbs.log2 < 1920 then .val (.str (toString i)) else .no
  | [.str a] => .val (.str a)
  | _ => .no
def sumD : List D → Res
  | [.lst _ ds] => (match unInts ds with
    | some ns => .val (.int ns.sum)
    | none => .no)
  | _ => .no
def allD : List D → Res
  | [.lst _ ds] => (match unBls ds with
    | some bs => .val (.bl (bs.all id))
    | none => .no)
  | _ => .no
def anyD : List D → Res
  | [.lst _ ds] => (match unBls ds with
    | some bs => .val (.bl (bs.any id))
    | none => .no)
  | _ => .no
def tupleD : List D → Res
  | [.lst _ ds] => .val (.tup ds)
  | [.tup ds] => .val (.tup ds)
  | _ => .no
def listD : List D → Res
  | [.lst _ ds] => .new ds
  | [.tup ds] => .new ds
  | _ => .no
def divmodD : List D → Res
  | [.int i, .int j] => if 0 < j ∧ j < 1073741824 then .val (.tup [.int (i / j), .int (i % j)]) else .no
  | _ => .no
section
variable {K : PySem.W.Frag} {G H : Hp}
theorem ints_v : ∀ {xs : List V} {ds : List D} {ns : List Int}, IsAll K G xs ds → unInts ds = some ns → xs = ns.map V.int
  | _, _, _, .nil, e => by simp only [unInts, Option.some.injEq] at e; subst e; rfl
  | _, _, _, .cons (d := d) h r, e => by
    cases h <;> first
      | (simp only [unInts] at e
         obtain ⟨ns, e1, e2⟩ := Option.map_eq_some_iff.mp e
         subst e2
         rw [List.map_cons, ← ints_v r e1])
      | cases e
theorem bls_v : ∀ {xs : List V} {ds : List D} {ns : List Bool}, IsAll K G xs ds → unBls ds = some ns → xs = ns.map V.bl
  | _, _, _, .nil, e => by simp only [unBls, Option.some.injEq] at e; subst e; rfl
  | _, _, _, .cons (d := d) h r, e => by
    cases h <;> first
      | (simp only [unBls] at e
         obtain ⟨ns, e1, e2⟩ := Option.map_eq_some_iff.mp e
         subst e2
         rw [List.map_cons, ← bls_v r e1])
      | cases e
theorem strs_v : ∀ {xs : List V} {ds : List D} {ns : List Str}, IsAll K G xs ds → unStrs ds = some ns → xs = ns.map V.str
  | _, _, _, .nil, e => by simp only [unStrs, Option.some.injEq] at e; subst e; rfl
  | _, _, _, .cons (d := d) h r, e => by
    cases h <;> first
      | (simp only [unStrs] at e
         obtain ⟨ns, e1, e2⟩ := Option.map_eq_some_iff.mp e
         subst e2
         rw [List.map_cons, ← strs_v r e1])
      | cases e
theorem len_v : CallV K (fun xs H Q => ∃ x n, xs = [x] ∧ LenV K x H n ∧ Q (.int n) H) lenD := by
  intro G H xs as le i Q post
  cases i with
  | nil => exact post.elim
  | cons i r =>
    cases r with
    | cons _ _ => cases i <;> exact post.elim
    | nil =>
      cases i <;> first
        | exact post.elim
        | skip
      · rename_i x
        have p : PostR K G H Q (if x.length ≤ sizeLine then .val (.int (x.length : Nat)) else .no) := post
        split at p
        · rename_i hz
          exact ⟨_, _, rfl, ⟨hz, rfl⟩, p.here le (.int _)⟩
        · exact p.elim
      · rename_i hs ha
        exact ⟨_, _, rfl, .inr ⟨_, sq_tup le hs, rfl⟩, by rw [ha.length]; exact PostR.here (K := K) (G := G) post le (.int _)⟩
      · rename_i hs ha
        exact ⟨_, _, rfl, .inl ⟨_, le.seq hs, rfl⟩, by rw [ha.length]; exact PostR.here (K := K) (G := G) post le (.int _)⟩
      · rename_i hs ha
        exact ⟨_, _, rfl, .inl ⟨_, .inl (same_rd le hs), rfl⟩, by rw [ha.length]; exact PostR.here (K := K) (G := G) post le (.int _)⟩
/-- a call of one argument, by the kind of its datum -/
theorem call1 {r : List V → Hp → VK → Prop} {g : List D → Res} (h0 : g [] = .no) (h2 : ∀ a c l, g (a :: c :: l) = .no)
    (h : ∀ (G H : Hp) (x : V) (d : D), Same G H → Is K G x d → ∀ Q, PostR K G H Q (g [d]) → r [x] H Q) : CallV K r g := by
  intro G H xs as le i Q post
  cases i with
  | nil => rw [h0] at post; exact post.elim
  | cons i j =>
    cases j with
    | nil => exact h G H _ _ le i Q post
    | cons _ _ => rw [h2] at post; exact post.elim
theorem abs_v : CallV K (fun xs H Q => ∃ i, xs = [.int i] ∧ Q (.int (if i < 0 then -i else i)) H) absD := call1 rfl (fun a c l => by cases a <;> rfl) fun G H x d le i Q post => by
  cases i <;> first
    | exact post.elim
    | exact ⟨_, rfl, post.here le (.int _)⟩
theorem int_v : CallV K (fun xs H Q => (∃ i, xs = [.int i] ∧ Q (.int i) H) ∨ ∃ k, xs = [.bl k] ∧ Q (.int (if k then 1 else 0)) H) intD := call1 rfl (fun a c l => by cases a <;> rfl) fun G H x d le i Q post => by
  cases i <;> first
    | exact post.elim
    | exact .inl ⟨_, rfl, post.here le (.int _)⟩
    | exact .inr ⟨_, rfl, post.here le (.int _)⟩
theorem str_v : CallV K (fun xs H Q => (∃ i, xs = [.int i] ∧ i.natAbs.log2 < 1920 ∧ Q (.str (toString i)) H) ∨ ∃ a, xs = [.str a] ∧ Q (.str a) H) strD := call1 rfl (fun a c l => by cases a <;> rfl) fun G H x d le i Q post => by
  cases i <;> first
    | exact post.elim
    | exact .inr ⟨_, rfl, post.here le (.str _)⟩
    | skip
  have p : PostR K G H Q (if _ then _ else _) := post
  split at p
  · rename_i hz
    exact .inl ⟨_, rfl, hz, p.here le (.str _)⟩
  · exact p.elim
theorem sum_v : CallV K (rSum K) sumD := call1 rfl (fun a c l => by cases a <;> rfl) fun G H x d le i Q post => by
  cases i <;> first
    | exact post.elim
    | skip
  rename_i a xs ds hs ha
  have p : PostR K G H Q (match unInts ds with | some ns => .val (.int ns.sum) | none => .no) := post
  cases e : unInts ds with
  | none => rw [e] at p; exact p.elim
  | some ns =>
    rw [e] at p
    have ex := ints_v ha e
    subst ex
    exact ⟨_, ns, rfl, .inl (same_rd le hs), p.here le (.int _)⟩
theorem all_v : CallV K (rAll K) allD := call1 rfl (fun a c l => by cases a <;> rfl) fun G H x d le i Q post => by
  cases i <;> first
    | exact post.elim
    | skip
  rename_i a xs ds hs ha
  have p : PostR K G H Q (match unBls ds with | some bs => .val (.bl (bs.all id)) | none => .no) := post
  cases e : unBls ds with
  | none => rw [e] at p; exact p.elim
  | some ns =>
    rw [e] at p
    have ex := bls_v ha e
    subst ex
    exact ⟨_, ns, rfl, .inl (same_rd le hs), p.here le (.bl _)⟩
theorem any_v : CallV K (L2.rAny K) anyD := call1 rfl (fun a c l => by cases a <;> rfl) fun G H x d le i Q post => by
  cases i <;> first
    | exact post.elim
    | skip
  rename_i a xs ds hs ha
  have p : PostR K G H Q (match unBls ds with | some bs => .val (.bl (bs.any id)) | none => .no) := post
  cases e : unBls ds with
  | none => rw [e] at p; exact p.elim
  | some ns =>
    rw [e] at p
    have ex := bls_v ha e
    subst ex
    exact ⟨_, ns, rfl, .inl (same_rd le hs), p.here le (.bl _)⟩
theorem list_v : CallV K (fun xs H Q => ∃ p ys, xs = [.ref p] ∧ (SqL K H p ys ∨ SqT K H p ys) ∧ ∀ l, H l = none → Q (.ref l) (upd H l (.lst ys))) listD := call1 rfl (fun a c l => by cases a <;> rfl) fun G H x d le i Q post => by
  cases i <;> first
    | exact post.elim
    | skip
  · rename_i hs ha
    exact ⟨_, _, rfl, .inr (sq_tup le hs), fun l hl => post l _ hl ha⟩
  · rename_i hs ha
    exact ⟨_, _, rfl, .inl (.inl (same_rd le hs)), fun l hl => post l _ hl ha⟩
theorem tuple_v : CallV K (fun xs H Q => ∃ p ys, xs = [.ref p] ∧ ((SqL K H p ys ∧ ∀ l, H l = none → Q (.ref l) (upd H l (.tup ys))) ∨ (SqT K H p ys ∧ Q (.ref p) H))) tupleD := call1 rfl (fun a c l => by cases a <;> rfl) fun G H x d le i Q post => by
  cases i <;> first
    | exact post.elim
    | skip
  · rename_i hs ha
    exact ⟨_, _, rfl, .inr ⟨sq_tup le hs, PostR.here (K := K) (G := G) post le (.tup hs ha)⟩⟩
  · rename_i a xs ds hs ha
    exact ⟨_, _, rfl, .inl ⟨.inl (same_rd le hs), fun l hl => post _ (upd G l (.tup xs)) _ (Step.new le hl) (same_both le) (.tup (.inl upd_same) (ha.mono (same_upd (same_none le hl))))⟩⟩
/-- a call of two ints -/
theorem call2i {r : List V → Hp → VK → Prop} {g : List D → Res} (h : ∀ (G H : Hp) (i j : Int), Same G H → ∀ Q, PostR K G H Q (g [.int i, .int j]) → r [.int i, .int j] H Q) (hn : ∀ as, (∀ i j, as ≠ [.int i, .int j]) → g as = .no) : CallV K r g := by
  intro G H xs as le i Q post
  by_cases z : ∃ a b, as = [.int a, .int b]
  · obtain ⟨a, b, rfl⟩ := z
    cases i with
    | cons i1 i2 =>
      cases i2 with
      | cons i2 i3 =>
        cases i3
        cases i1
        cases i2
        exact h G H a b le Q post
  · rw [hn as (fun a b e => z ⟨a, b, e⟩)] at post
    exact post.elim
theorem max_v : CallV K (fun xs H Q => ∃ i j, xs = [.int i, .int j] ∧ Q (.int (if j > i then j else i)) H) maxD := call2i (fun G H i j le Q post => ⟨i, j, rfl, PostR.here (K := K) (G := G) post le (.int _)⟩) fun as h => by
  unfold maxD
  split
  · rename_i i j; exact absurd rfl (h i j)
  · rfl
theorem min_v : CallV K (fun xs H Q => ∃ i j, xs = [.int i, .int j] ∧ Q (.int (if j < i then j else i)) H) minD := call2i (fun G H i j le Q post => ⟨i, j, rfl, PostR.here (K := K) (G := G) post le (.int _)⟩) fun as h => by
  unfold minD
  split
  · rename_i i j; exact absurd rfl (h i j)
  · rfl
theorem divmod_v : CallV K (fun xs H Q => ∃ i j, xs = [.int i, .int j] ∧ CDiv i j ∧ ∀ p, H p = none → Q (.ref p) (upd H p (.tup [.int (i / j), .int (i % j)]))) divmodD := call2i (fun G H i j le Q post => by
    have p : PostR K G H Q (if 0 < j ∧ j < 1073741824 then .val (.tup [.int (i / j), .int (i % j)]) else .no) := post
    split at p
    · rename_i hz
      exact ⟨i, j, rfl, hz, fun l hl => p _ (upd G l (.tup [.int (i / j), .int (i % j)])) _ (Step.new le hl) (same_both le) (.tup (.inl upd_same) (.cons (.int _) (.cons (.int _) .nil)))⟩
    · exact p.elim) fun as h => by
  unfold divmodD
  split
  · rename_i i j; exact absurd rfl (h i j)
  · rfl
end

/-! ### isinstance against built-in types -/
def tyName : D → Option String
  | .non => some "NoneType"
  | .bl _ => some "bool"
  | .int _ => some "int"
  | .str _ => some "str"
  | .tup _ => some "tuple"
  | .lst _ _ => some "list"
  | _ => none
def tyKnown (n : String) : Bool := n == "int" || n == "bool" || n == "str" || n == "tuple" || n == "list" || n == "dict"
def isTy (m n : String) : Bool := m == n || (m == "bool" && n == "int")
def isTys (m : String) : List D → Option Bool
  | [] => some false
  | .ty n :: r => if tyKnown n = true then (isTys m r).map (isTy m n || ·) else none
  | _ :: _ => none
def isiD : List D → Res
  | [d, .ty n] => (match tyName d with
    | some m => if tyKnown n = true then .val (.bl (isTy m n)) else .no
    | none => .no)
  | [d, .tup ts] => (match tyName d with
    | some m => (match isTys m ts with
      | some k => .val (.bl k)
      | none => .no)
    | none => .no)
  | _ => .no
section
variable {K : PySem.W.Frag} {G H : Hp}
theorem kit_tab : ∀ m ∈ ["NoneType", "bool", "int", "str", "tuple", "list"], ∀ n ∈ ["int", "bool", "str", "tuple", "list", "dict"], kitB m n = some (isTy m n) := by decide +kernel
theorem known_mem {n : String} (h : tyKnown n = true) : n ∈ ["int", "bool", "str", "tuple", "list", "dict"] := by
  unfold tyKnown at h
  simp only [Bool.or_eq_true, beq_iff_eq] at h
  simp only [List.mem_cons, List.not_mem_nil, or_false]
  rcases h with ((((h | h) | h) | h) | h) | h <;> simp [h]
theorem ty_mem {d : D} {m : String} (h : tyName d = some m) : m ∈ ["NoneType", "bool", "int", "str", "tuple", "list"] := by
  cases d <;> first
    | (simp only [tyName, Option.some.injEq] at h; subst h; decide)
    | cases h
theorem kit_one {m n : String} {d : D} (hd : tyName d = some m) (hn : tyKnown n = true) : PySem.W.kitOne K (.type m) (.type n) = some (isTy m n) := kit_ty (kit_tab m (ty_mem hd) n (known_mem hn))
theorem tyx_v {x : V} {d : D} {m : String} (le : Same G H) (i : Is K G x d) (h : tyName d = some m) : TyX K H x (.type m) := by
  cases i with
  | non => cases h; exact .base .non
  | bl b => cases h; exact .base (.bl b)
  | int b => cases h; exact .base (.int b)
  | str b => cases h; exact .base (.str b)
  | tup hs ha =>
    cases h
    rcases hs with hs | ⟨o, its, n, hl, hc, _⟩
    · exact .base (.tup (le _ _ hs))
    · exact .kTuple hl hc
  | ro hs ha => cases h
  | lst hs ha =>
    cases h
    rcases hs with hs | ⟨o, hs⟩
    · exact .base (.lst (le _ _ hs))
    · exact .base (.frz (le _ _ hs))
  | ty _ => cases h
  | ref _ => cases h
  | ob _ _ => cases h
theorem tys_v {d : D} {m : String} (hd : tyName d = some m) : ∀ {cs : List V} {ts : List D} {k : Bool}, IsAll K G cs ts → isTys m ts = some k → ∃ us, Paired ClsV cs us ∧ PySem.W.kitAny K (.type m) us = some k
  | _, _, k, .nil, e => by simp only [isTys, Option.some.injEq] at e; subst e; exact ⟨[], .nil, rfl⟩
  | _, _, k, .cons h r, e => by
    cases h <;> first
      | cases e
      | skip
    rename_i n
    simp only [isTys] at e
    split at e
    · rename_i hn
      obtain ⟨k', e1, e2⟩ := Option.map_eq_some_iff.mp e
      obtain ⟨us, h1, h2⟩ := tys_v hd r e1
      refine ⟨.type n :: us, .cons (.ty n) h1, kitAny_cons (kit_one hd hn) (fun z => ?_) (fun z => ?_)⟩
      · rw [z] at e2
        rw [h2, ← e2]
        rfl
      · rw [z] at e2
        exact e2.symm
    · cases e
def rIsiA (K : PySem.W.Frag) : List V → Hp → VK → Prop := fun xs H Q => rIsi K xs H Q ∨ (rIsiT K xs H Q ∨ rIsiK K xs H Q)
theorem cr_isiA {X : Cx} : CallR X (.builtin "isinstance") (rIsiA X.K) := call_isi.or (call_isiT.or call_isiK)
theorem vals_cls : ∀ {cs : List V} {us ws : List Value}, Paired ClsV cs us → Vals cs ws → ws = us := ClsV.all
theorem isi_v : CallV K (rIsiA K) isiD := by
  intro G H xs as le i Q post
  unfold isiD at post
  split at post
  · rename_i d n
    cases i with
    | cons i1 i2 =>
      cases i2 with
      | cons i2 i3 =>
        cases i3
        cases i2
        split at post
        · rename_i m hm
          split at post
          · rename_i hn
            exact .inl ⟨_, _, _, _, _, rfl, .ty n, tyx_v le i1 hm, kit_one hm hn, post.here le (.bl _)⟩
          · exact post.elim
        · exact post.elim
  · rename_i d ts
    cases i with
    | cons i1 i2 =>
      cases i2 with
      | cons i2 i3 =>
        cases i3
        cases i2 with
        | tup hs ha =>
          split at post
          · rename_i m hm
            split at post
            · rename_i k hk
              obtain ⟨us, h1, h2⟩ := tys_v hm ha hk
              rcases hs with hs | ⟨o, its, n, hl, hc, hd, hz, hv⟩
              · exact .inr (.inl ⟨_, _, _, _, us, _, rfl, le _ _ hs, h1, tyx_v le i1 hm, h2, post.here le (.bl _)⟩)
              · have e := vals_cls h1 hv
                obtain ⟨oc, od, dt, sl⟩ := o
                simp only at hc hd
                subst hc hd
                refine .inr (.inr ⟨_, _, od, us, n, sl, _, _, rfl, ?_, tyx_v le i1 hm, h2, post.here le (.bl _)⟩)
                rw [hl, ← e]
            · exact post.elim
          · exact post.elim
  · exact post.elim
end

/-! ### slices -/
abbrev Opt := Env → Out (Option Int)
def fNoP : Opt := fun ρ => .ok none ρ true
def fPart (F : Env → Out D) : Opt := fun ρ => (F ρ).bind fun a ρ1 => match a with
  | .int i => .ok (some i) ρ1 true
  | _ => .no
structure DP (X : Cx) (B : By) (W : WX) (e : Option Expr) (t : TO) (F : Opt) : Prop where
  po : PO X e t
  sat : Sat X.K B W (EqR (Option Int)) t F
def slD (a : D) (lo hi : Option Int) : Res := match a with
  | .tup ds => if HT.sIx ds.length 0 lo = 0 ∧ HT.sIx ds.length ds.length hi = ds.length then .no else .val (.tup (cutD ds lo hi))
  | .lst _ ds => .new (cutD ds lo hi)
  | .str z => if z.length ≤ sizeLine then .val (.str (cutS z lo hi)) else .no
  | _ => .no
def fSl (g : D → Option Int → Option Int → Res) (F : Env → Out D) (L U : Opt) (k : Res → Env → Out D) : Env → Out D := fun ρ => (F ρ).bind fun a ρ1 => (L ρ1).bind fun lo ρ2 => (U ρ2).bind fun hi ρ3 => k (g a lo hi) ρ3
section
variable {K : PySem.W.Frag} {B : By} {W : WX} {G H : Hp}
theorem sp_none : Sat K B W (EqR (Option Int)) tNoPart fNoP := fun b G H ω σ ρ rel Q post => Post.now rel post rfl
def partF (a : D) (ρ1 : Env) : Out (Option Int) := match a with
  | .int i => .ok (some i) ρ1 true
  | _ => .no
theorem sp_some {t : TE} {F : Env → Out D} (h : Sat K B W (IsR K) t F) : Sat K B W (EqR (Option Int)) (tPart t) (fPart F) :=
  Sat.bind (R' := EqR (Option Int)) (Fu := partF) (t := t) (u := fun x σ H Q => ∃ i, x = .int i ∧ Q (some i) H) h fun b Hs ωs G H ω σ ρ rel x a i Q post => by
    cases i <;> first
      | exact post.elim
      | exact ⟨_, rfl, Post.now rel post rfl⟩
def rSlA (K : PySem.W.Frag) : V → Option Int → Option Int → Hp → VK → Prop := fun x lo hi H Q => rSlL K x lo hi H Q ∨ (rSlT K x lo hi H Q ∨ rSlS x lo hi H Q)
theorem sl_all {X : Cx} : SlR X (rSlA X.K) := sl_list.or (sl_tup.or sl_str)
theorem cut_v {xs : List V} {ds : List D} {lo hi : Option Int} (h : IsAll K G xs ds) : IsAll K G (cutV xs lo hi) (cutD ds lo hi) := by
  unfold cutV cutD
  rw [h.length]
  exact (h.drop _).take _
theorem sl_v {x : V} {a : D} {lo hi : Option Int} {Q : VK} (le : Same G H) (i : Is K G x a) (post : PostR K G H Q (slD a lo hi)) : rSlA K x lo hi H Q := by
  cases i <;> first
    | exact post.elim
    | skip
  · rename_i z
    have p : PostR K G H Q (if z.length ≤ sizeLine then .val (.str (cutS z lo hi)) else .no) := post
    split at p
    · rename_i hz
      exact .inr (.inr ⟨z, rfl, hz, p.here le (.str _)⟩)
    · exact p.elim
  · rename_i a xs ds hs ha
    have p : PostR K G H Q (if HT.sIx ds.length 0 lo = 0 ∧ HT.sIx ds.length ds.length hi = ds.length then .no else .val (.tup (cutD ds lo hi))) := post
    split at p
    · exact p.elim
    · rename_i hz
      refine .inr (.inl ⟨_, xs, rfl, sq_tup le hs, by rw [ha.length]; exact hz, fun l hl => ?_⟩)
      exact p _ (upd G l (.tup (cutV xs lo hi))) _ (Step.new le hl) (same_both le) (.tup (.inl upd_same) ((cut_v ha).mono (same_upd (same_none le hl))))
  · rename_i a xs ds hs ha
    exact .inl ⟨_, xs, rfl, .inl (same_rd le hs), fun l hl => post l _ hl (cut_v ha)⟩
theorem sat_sl {R : Rep D V} [Back R] {k : Res → Env → Out D} {te : TE} {tl th : TO} {F : Env → Out D} {L U : Opt} (hk : ∀ {b : Bs} {G H : Hp} {ω : Lb} {σ : L2.St} {ρ : Env} {Q : VK} {r : Res}, Rel K b B G H ω σ ρ → Post K B W b G H ω σ R Q (k r ρ) → PostR K G H Q r)
    (he : Sat K B W (IsR K) te F) (hl : Sat K B W (EqR (Option Int)) tl L) (hu : Sat K B W (EqR (Option Int)) th U) : Sat K B W R (tSl (rSlA K) te tl th) (fSl slD F L U k) := by
  intro b G H ω σ ρ rel Q post
  refine he.at (R' := R) (Q := Q) rel post fun G1 H1 ω1 ρ1 x a rel1 s1 i post => ?_
  refine hl.at (R' := R) (Q := Q) rel1 post fun G2 H2 ω2 ρ2 lo lo' rel2 s2 e post => ?_
  subst e
  refine hu.at (R' := R) (Q := Q) rel2 post fun G3 H3 ω3 ρ3 hi hi' rel3 s3 e post => ?_
  subst e
  exact sl_v rel3.le (i.mono (s2.g.trans s3.g)) (hk rel3 post)
end
section
variable {X : Cx} {B : By} {W : WX} {e : Expr} {es : List Expr} {te : TE} {t : TA} {Fe : Env → Out D} {F : Env → Out (List D)} {lo hi : Option Expr} {tl th : TO} {L U : Opt} {pos p2 : Pos}
theorem dp_none : DP X B W none tNoPart fNoP := ⟨po_none, sp_none⟩
theorem dp_some (h : DE X B W e te Fe) : DP X B W (some e) (tPart te) (fPart Fe) := ⟨po_some h.pe, sp_some h.sat⟩
theorem d_sl (he : DE X B W e te Fe) (hl : DP X B W lo tl L) (hu : DP X B W hi th U) : DE X B W (.Subscript e (.Slice lo hi none p2) pos) (tSl (rSlA X.K) te tl th) (fSl slD Fe L U resE) := ⟨pe_slice sl_all he.pe hl.po hu.po, sat_sl res_e he.sat hl.sat hu.sat⟩
theorem o_sl (he : DE X B W e te Fe) (hl : DP X B W lo tl L) (hu : DP X B W hi th U) : DO X B W (.Subscript e (.Slice lo hi none p2) pos) (tSl (rSlA X.K) te tl th) (fSl slD Fe L U resO) := ⟨pe_slice sl_all he.pe hl.po hu.po, sat_sl res_o he.sat hl.sat hu.sat⟩
/-- T(e, ..), T a built-in type -/
theorem d_ct {T : String} {r : List V → Hp → VK → Prop} {g : List D → Res} {x : Str} {p : Pos} (hc : CallR X (.type T) r) (hw : CallV X.K r g) (hg : Gl X x) (hm : X.mg x = none) (hv : bootBuiltins x = some (.type T)) (ha : DA X B W (e :: es) t F) (hn : x ≠ "__name__" := by decide)
    (hdb : (x == ("__debug__" : Str)) = false := by decide) (he : starEach (e :: es) X.env = (false, eval e X.env) :: starEach es X.env := by rfl) (hpl : (backTo pos (starEach es X.env)).any (·.1) = false := by rfl) :
    DE X B W (.Call (.Name x p) (e :: es) [] pos) (tCB r t) (fCl g F) := ⟨pe_callTy hc hg hm hv ha.pa hn hdb he hpl, sat_cl hw ha.sat⟩
theorem o_ct {T : String} {r : List V → Hp → VK → Prop} {g : List D → Res} {x : Str} {p : Pos} (hc : CallR X (.type T) r) (hw : CallV X.K r g) (hg : Gl X x) (hm : X.mg x = none) (hv : bootBuiltins x = some (.type T)) (ha : DA X B W (e :: es) t F) (hn : x ≠ "__name__" := by decide)
    (hdb : (x == ("__debug__" : Str)) = false := by decide) (he : starEach (e :: es) X.env = (false, eval e X.env) :: starEach es X.env := by rfl) (hpl : (backTo pos (starEach es X.env)).any (·.1) = false := by rfl) :
    DO X B W (.Call (.Name x p) (e :: es) [] pos) (tCB r t) (fClO g F) := ⟨pe_callTy hc hg hm hv ha.pa hn hdb he hpl, sat_clO hw ha.sat⟩
end
end DL
set_option Elab.async false
set_option linter.all false
set_option maxRecDepth 100000
set_option maxHeartbeats 1000000
namespace DL
open PySem PySem.Spec PyProof.Rows L2

/-! ### calls of defs -/
def tCallW (sp : Sp) (dvs : List V) (W : WX) (t : TA) : TE := fun σ H Q => t σ H fun vs H1 => sp (vs ++ dvs) H1 Q (WE W σ)
section
variable {X : Cx} {k : Nat} {f : Addr} {fd : FuncData} {ps : List Str} {sp : Sp} {W : WX} {dvs : List V} {ds : List Value} {x m : Str} {p pos apos : Pos} {e o : Expr} {es : List Expr} {t : TA}
/-- the callee runs; what it lets out goes where W says -/
theorem run_w {pins : List (Addr × Obj)} {σ : L2.St} {H : Hp} {s : Shared} {Q : VK} {us zs : List Value} {kw : List (Str × Value)} {vs : List V} (F : FnOk X.prog X.w X.K X.mg X.base (L2.CX X.prog X.w) k f fd ps sp) (hr : Room k X.A) (tk : Takes X W)
    (I : Inv X pins σ H s) (hb : BindsTo s fd ⟨us, kw⟩ (ps.zip zs)) (r : Vals vs zs) (h : sp vs H Q (WE W σ)) : wpAny (model X.prog X.w) X.A (call (.ref f) us kw) (EP X pins σ Q) X.xe s := by
  refine wpAny_call (codeAny_mono (F.run X.A X.stack s H ⟨us, kw⟩ zs vs Q (WE W σ) hr I.env0 hb r h) fun res s' hq => ?_)
  match res, hq with
  | .error e, hq => exact passAt tk σ pins H s e s' I hq
  | .ok (.ret u), hq => exact I.after hq
  | .ok .next, hq => exact False.elim hq
  | .ok .brk, hq => exact False.elim hq
  | .ok .cont, hq => exact False.elim hq
theorem pe_callW (F : FnOk X.prog X.w X.K X.mg X.base (L2.CX X.prog X.w) k f fd ps sp) (hr : Room k X.A) (tk : Takes X W) (hm : X.mg x = some (.ref f)) (hk : PySem.W.keepIn X.K (.ref f) = true) (hb : Binds X.K fd ps ds) (hd : Vals dvs ds) (hg : Gl X x) (ha : PA X (e :: es) t)
    (hdb : (x == ("__debug__" : Str)) = false) (he : starEach (e :: es) X.env = (false, eval e X.env) :: starEach es X.env) (hpl : (backTo pos (starEach es X.env)).any (·.1) = false) : PE X (.Call (.Name x p) (e :: es) [] pos) (tCallW sp dvs W t) := by
  constructor
  intro pins s σ H Q I h
  apply wpAny_Call_Name_kw
  refine ld_glob I hg hm ?_ hdb
  refine PySem.W.callWith_K (h₀ := X.base) I.ok.mod.kin hk (thn (ha.run pos pins s σ H _ I h) ?_) he hpl
  rintro us s1 ⟨vs, H1, I1, r, q⟩
  refine ⟨I1.kIn, ?_⟩
  have r2 : Vals (vs ++ dvs) (us ++ ds) := r.append hd
  have hl : (us ++ ds).length = ps.length := by rw [← r2.length]; exact F.len _ _ _ _ q
  exact run_w F hr tk I1 (hb s1 us I1.kIn hl) r2 q
theorem pe_callW0 (F : FnOk X.prog X.w X.K X.mg X.base (L2.CX X.prog X.w) k f fd ps sp) (hr : Room k X.A) (tk : Takes X W) (hm : X.mg x = some (.ref f)) (hk : PySem.W.keepIn X.K (.ref f) = true) (hb : Binds X.K fd ps ds) (hd : Vals dvs ds) (hg : Gl X x)
    (hdb : (x == ("__debug__" : Str)) = false) : PE X (.Call (.Name x p) [] [] pos) (tCallW sp dvs W tNil) := by
  constructor
  intro pins s σ H Q I h
  apply wpAny_Call_Name_kw
  refine ld_glob I hg hm ?_ hdb
  have hl : ([] ++ ds).length = ps.length := by rw [List.nil_append, ← hd.length]; exact F.len _ _ _ _ h
  exact PySem.W.callWith_K0 I.kIn hk (run_w (us := []) F hr tk I (hb s [] I.kIn hl) hd h)
end
/-- how many arguments there are is looked at; dds: the defaults behind them -/
def fCallN (np : Nat) (js : List Nat) (dds : List D) (m : List D → FOut) (F : Env → Out (List D)) : Env → Out D := fun ρ => (F ρ).bind fun as ρ1 => if js.length + (as ++ dds).length = np then (match getAll ρ1 js with
  | some ds => callO js (m (ds ++ (as ++ dds))) ρ1
  | none => .no) else .no
abbrev Const (K : PySem.W.Frag) : List V → List D → Prop := Paired fun v d => ∀ G, Is K G v d
section
variable {K : PySem.W.Frag} {B : By} {W : WX} {t : TA} {F : Env → Out (List D)} {np : Nat} {m : List D → FOut} {js : List Nat} {dvs : List V} {dds : List D}
theorem isAll_of (h : Const K dvs dds) (G : Hp) : IsAll K G dvs dds := by
  induction h with
  | nil => exact .nil
  | cons h _ ih => exact .cons (h G) ih
theorem sat_call (nd : js.Nodup) (hnp : js.length ≤ np) (hd : Const K dvs dds) (ht : SatB K B W js t F) : Sat K B W (OwnR K) (tCallW (spOf K js.length np m) dvs W t) (fCallN np js dds m F) := by
  intro b G H ω σ ρ rel Q post
  refine Sat.at0 (R := ArgR K σ js) (R' := OwnR K) (F := F) (t := t) (Q := Q) (ht b G H ω σ ρ rel) post fun G1 H1 ω1 ρ1 vs as rel1 s1 ⟨vb, vv, ev, hl, iv⟩ p => ?_
  subst ev
  split at p
  · rename_i hn
    cases eg : getAll ρ1 js with
    | none => rw [eg] at p; exact p.elim
    | some db =>
      rw [eg] at p
      have iv' := iv.append (isAll_of hd G1)
      have hlen := looked_len hl
      rw [List.append_assoc]
      exact call_core rel1 nd hl iv' eg (by rw [hlen, iv'.length]; exact hn) hnp p
  · exact p.elim
end
section
variable {X : Cx} {B : By} {W : WX} {k np : Nat} {f : Addr} {fd : FuncData} {ps : List Str} {m : List D → FOut} {js : List Nat} {dvs : List V} {dds : List D} {ds : List Value} {x : Str} {p pos : Pos} {e : Expr} {es : List Expr} {t : TA} {F : Env → Out (List D)}
/-- f(e, ..), f a def of the text -/
theorem o_call (Fn : FnOk X.prog X.w X.K X.mg X.base (L2.CX X.prog X.w) k f fd ps (spOf X.K js.length np m)) (hr : Room k X.A) (tk : Takes X W) (hm : X.mg x = some (.ref f)) (hk : PySem.W.keepIn X.K (.ref f) = true) (hb : Binds X.K fd ps ds) (hd : Vals dvs ds) (hdd : Const X.K dvs dds)
    (ha : DB X B W js (e :: es) t F) (nd : js.Nodup := by decide) (hnp : js.length ≤ np := by decide) (hg : Gl X x := by rfl) (hdb : (x == ("__debug__" : Str)) = false := by decide) (he : starEach (e :: es) X.env = (false, eval e X.env) :: starEach es X.env := by rfl)
    (hpl : (backTo pos (starEach es X.env)).any (·.1) = false := by rfl) : DO X B W (.Call (.Name x p) (e :: es) [] pos) (tCallW (spOf X.K js.length np m) dvs W t) (fCallN np js dds m F) := ⟨pe_callW Fn hr tk hm hk hb hd hg ha.pa hdb he hpl, sat_call nd hnp hdd ha.sat⟩
/-- f() -/
theorem o_call0 (Fn : FnOk X.prog X.w X.K X.mg X.base (L2.CX X.prog X.w) k f fd ps (spOf X.K 0 np m)) (hr : Room k X.A) (tk : Takes X W) (hm : X.mg x = some (.ref f)) (hk : PySem.W.keepIn X.K (.ref f) = true) (hb : Binds X.K fd ps ds) (hd : Vals dvs ds) (hdd : Const X.K dvs dds)
    (hg : Gl X x := by rfl) (hdb : (x == ("__debug__" : Str)) = false := by decide) : DO X B W (.Call (.Name x p) [] [] pos) (tCallW (spOf X.K 0 np m) dvs W tNil) (fCallN np [] dds m fNil) := ⟨pe_callW0 Fn hr tk hm hk hb hd hg hdb, sat_call (js := []) .nil (Nat.zero_le _) hdd (db_of (X := X) ⟨pa_nil, sat_nil⟩).sat⟩
end
/-- a wish about exceptions within a def, as its body's rules ask for it -/
abbrev WOf (E : XK) : WX := fun cls d _ H => E cls d H

/-! ### the end of a law -/
theorem isAll_ints {K : PySem.W.Frag} {G : Hp} : ∀ ns : List Int, IsAll K G (ns.map V.int) (ns.map D.int)
  | [] => .nil
  | n :: ns => .cons (.int n) (isAll_ints ns)
/-- the law says True of every script -/
def Wins (m : List D → FOut) : Prop := ∀ ns : List Int, ns.length ≤ 63 → (∀ z ∈ ns, Builtin.Int.intBits z ≤ 1048576) → m [.ro (ns.map D.int)] = .ok (.bl true) []
theorem law_sp {m : List D → FOut} (h : Wins m) (K : PySem.W.Frag) (H : Hp) (a : Addr) (ns : List Int) (hn : ns.length ≤ 63) (hb : ∀ z ∈ ns, Builtin.Int.intBits z ≤ 1048576) (hs : SqL K H a (ns.map V.int)) : spOf K 0 1 m [.ref a] H (fun v _ => v = .bl true) fun _ _ _ => False := by
  refine ⟨[.ro (ns.map D.int)], H, fun _ => none, rfl, rfl, Nat.zero_le _, Same.refl _, fun a l q => (by cases q), fun i d e => ?_, ?_⟩
  · match i, e with
    | 0, e => cases e; exact ⟨_, rfl, .frz (.ro hs (isAll_ints ns))⟩
    | i + 1, e => simp at e
  · rw [h ns hn hb]
    intro v G' H' ω' ωt _ _ o
    cases own_is o rfl
    rfl
theorem cx_no {P : Program} {w : World} {H : Hp} {s s' : Shared} {e : Value} (h : L2.CX P w [] H s (fun _ _ _ => False) e s') : False := by
  obtain ⟨_, _, _, _, _, _, _, _, _, _, _, _, z⟩ := h
  exact z
end DL
set_option Elab.async false
set_option linter.all false
set_option maxRecDepth 100000
set_option maxHeartbeats 1000000
namespace DL
open PySem PySem.Spec PyProof.Rows L2

/-! ### an owned list or object, looked at -/
def fBor0 {α : Type} (j : Nat) (fl : α → Bool) (F : Env → Out α) : Env → Out α := fun ρ => match ρ[j]? with
  | some (some d) => if owned d = true then (match F (ρ.set j (some (frz d))) with
    | .ok r _ true => if fl r = true then .ok r ρ true else .no
    | _ => .no) else F ρ
  | _ => .no
abbrev fBor (j : Nat) (F : Env → Out D) : Env → Out D := fBor0 j flatD F
abbrev fBorT (j : Nat) (F : Env → Out Bool) : Env → Out Bool := fBor0 j (fun _ => true) F
def isLst (ρ : Env) (j : Nat) : Bool := match ρ[j]? with
  | some (some (.lst _ _)) => true
  | _ => false
def fIxL (j : Nat) (Fi : Env → Out D) : Env → Out D := fun ρ => if isLst ρ j = true then (Fi ρ).bind fun i ρ1 => (match ρ1[j]?, i with
  | some (some (.lst _ ds)), .int k => (match atI ds k with
    | some d => .ok d ρ1 true
    | none => .no)
  | _, _ => .no) else .no
section
variable {K : PySem.W.Frag} {B : By} {W : WX}
theorem is_flat {G G' : Hp} {v : V} {d : D} (i : Is K G v d) (h : flatD d = true) : Is K G' v d := by
  cases i <;> first
    | exact .non
    | exact .bl _
    | exact .int _
    | exact .str _
    | cases h
def bG (j : Nat) (ω : Lb) (G1 : Hp) : Hp := fun a => match ω a with
  | some l => if l.1 = j then none else G1 a
  | none => G1 a
theorem bG_none {j : Nat} {ω : Lb} {G1 : Hp} {a : Addr} (h : G1 a = none) : bG j ω G1 a = none := by
  unfold bG
  split
  · split
    · rfl
    · exact h
  · exact h
theorem bG_some {j : Nat} {ω : Lb} {G1 : Hp} {a : Addr} {o} (h : bG j ω G1 a = some o) : G1 a = some o := by
  unfold bG at h
  split at h
  · split at h
    · cases h
    · exact h
  · exact h
theorem PinAt.move {b b' : Bs} {G H : Hp} {ω : Lb} {σ : L2.St} {ρ : Env} {p : Pin} (P : PinAt K b B p) (R : Rel K b B G H ω σ ρ) (hσ : b'.σ = σ) (hG : Same G b'.G) (hH : ∀ d, ω d = none → b'.H d = H d ∧ b'.ω d = none) : PinAt K b' B p where
  mem := P.mem
  at' := by rw [hσ, R.byr _ P.mem]; exact P.at'
  fs := (P.fs.mono R.leG).mono hG
  dd := by
    rcases P.dd with h | ⟨d, h1, h2, h3⟩
    · exact .inl h
    · have z : ω d = none := by
        cases q : ω d with
        | none => rfl
        | some l =>
          rcases (R.own d l q).2.2 with y | ⟨w, y⟩
          · rw [h2] at y; cases y
          · rw [h3] at y; cases y
      exact .inr ⟨d, h1, by rw [(hH d z).1]; exact R.old d _ h3 h2, (hH d z).2⟩
/-- a look at the owned slot j: any expression whose data stay true when the look ends -/
theorem sat_bor0 {α β : Type} {R : Rep α β} {j : Nat} {t : L2.St → Hp → (β → Hp → Prop) → Prop} {fl : α → Bool} {F : Env → Out α} (hR : ∀ {b Hs ωs G H ω b' Hs' ωs' G' H' ω' x a}, R b Hs ωs G H ω x a → fl a = true → R b' Hs' ωs' G' H' ω' x a) (h : Sat K B W R t F) : Sat K B W R t (fBor0 j fl F) := by
  intro b G H ω σ ρ rel Q post
  unfold fBor0 at post
  cases e : ρ[j]? with
  | none => rw [e] at post; exact post.elim
  | some o =>
    cases o with
    | none => rw [e] at post; exact post.elim
    | some d =>
      rw [e] at post
      dsimp only at post
      by_cases c : owned d = true
      · rw [if_pos c] at post
        -- the state as it looks with slot j frozen, from a beginning of its own
        have lab : ∀ {a : Addr} {l : Nat × Option Str}, unlab ω j a = some l → melt ω j G H a = G a := fun {a l} q => melt_ne fun p z => by
          obtain ⟨q1, q2⟩ := unlab_some q
          rw [q1] at z
          injection z with z
          subst z
          exact q2 rfl
        have rel2 : Rel K ⟨melt ω j G H, fun a => match unlab ω j a with | some l => if l.1 ∈ B.l then H a else none | none => H a, fun a => match unlab ω j a with | some l => if l.1 ∈ B.l then some l else none | none => none, σ⟩ B
            (melt ω j G H) H (unlab ω j) σ (ρ.set j (some (frz d))) := by
          refine ⟨melt_le rel.le, Same.refl _, fun a o _ h2 => ?_, fun a h1 => ?_, fun a _ g => g, fun a l q => ?_, fun a l q => ?_, by rw [List.length_set]; exact rel.len, fun i e' hi => ?_, fun i _ => rfl, fun p hp => (rel.pin p hp).move rel rfl (melt_same rel.hG) fun d hd => by
            have z : unlab ω j d = none := by unfold unlab; rw [hd]
            dsimp only
            rw [z]
            exact ⟨rfl, rfl⟩⟩
          · dsimp only at h2
            cases q : unlab ω j a with
            | none => rw [q] at h2; exact h2
            | some l =>
              rw [q] at h2
              dsimp only at h2
              split at h2
              · exact h2
              · cases h2
          · dsimp only
            cases q : unlab ω j a with
            | none => exact h1
            | some l => dsimp only; split <;> first | exact h1 | rfl
          · obtain ⟨q1, q2⟩ := unlab_some q
            obtain ⟨y1, y2, _⟩ := rel.own a l q1
            refine ⟨by rw [lab q]; exact y1, y2, ?_⟩
            dsimp only
            rw [q]
            dsimp only
            by_cases hb : l.1 ∈ B.l
            · rw [if_pos hb, if_pos hb]; exact .inr ⟨l.2, rfl⟩
            · rw [if_neg hb]; exact .inl rfl
          · dsimp only at q
            cases z : unlab ω j a with
            | none => rw [z] at q; cases q
            | some m =>
              rw [z] at q
              dsimp only at q
              split at q
              · cases q; assumption
              · cases q
          · rw [List.getElem?_set] at hi
            split at hi
            · rename_i c'
              subst c'
              split at hi
              · cases hi
                obtain ⟨v, h1, h2⟩ := rel.slot j d e
                exact ⟨v, h1, .frz (h2.frozen rel.hG)⟩
              · cases hi
            · rename_i c'
              obtain ⟨v, h1, h2⟩ := rel.slot i e' hi
              exact ⟨v, h1, h2.go (melt_same rel.hG) fun a p q => ⟨unlab_keep q (fun z => c' z.symm), rfl⟩⟩
        refine h _ _ H _ σ _ rel2 Q ?_
        cases eF : F (ρ.set j (some (frz d))) with
        | no => rw [eF] at post; exact post.elim
        | ex c' ρ' => rw [eF] at post; exact post.elim
        | ok r ρ' q =>
          rw [eF] at post
          cases q with
          | false => exact post.elim
          | true =>
            dsimp only at post
            split at post
            · rename_i hf
              intro v G1 H1 ω1 rel1 t1 q1 i
              obtain ⟨w1, p1⟩ := q1 rfl
              subst w1
              have st : Step G H (bG j ω G1) H1 := by
                refine ⟨fun a o g => ?_, p1, fun a ha g => ?_⟩
                · have nl : ω a = none := by
                    cases z : ω a with
                    | none => rfl
                    | some l => rw [(rel.own a l z).1] at g; cases g
                  unfold bG
                  rw [nl]
                  exact t1.g a o (by rw [melt_ne (fun p z => by rw [nl] at z; cases z)]; exact g)
                · by_cases hj : ∃ p, ω a = some (j, p)
                  · obtain ⟨p, hj⟩ := hj
                    unfold bG
                    rw [hj]
                    dsimp only
                    rw [if_pos rfl]
                  · have g2 : melt ω j G H a = none := by rw [melt_ne (fun p z => hj ⟨p, z⟩)]; exact g
                    have g3 : G1 a = none := by
                      cases z : unlab ω j a with
                      | none => exact t1.hid a z ha g2
                      | some l => exact (rel1.own a l z).1
                    exact bG_none g3
              exact Post.step rel post st (fun a o g => rel1.le a o (bG_some g)) (hR i hf)
            · exact post.elim
      · rw [if_neg c] at post
        exact h b G H ω σ ρ rel Q post
theorem sat_bor {j : Nat} {t : TE} {F : Env → Out D} (h : Sat K B W (IsR K) t F) : Sat K B W (IsR K) t (fBor j F) := sat_bor0 (fun i hf => is_flat i hf) h
theorem sat_borT {j : Nat} {t : TT} {F : Env → Out Bool} (h : Sat K B W (EqR Bool) t F) : Sat K B W (EqR Bool) t (fBorT j F) := sat_bor0 (fun i _ => i) h
theorem slot_list {b : Bs} {G H : Hp} {ω : Lb} {σ : L2.St} {ρ : Env} (rel : Rel K b B G H ω σ ρ) {j : Nat} {o : Bool} {ds : List D} (h : ρ[j]? = some (some (.lst o ds))) : ∃ a xs, σ[j]? = some (some (.ref a)) ∧ Rd H a (.lst xs) ∧ IsAll K G xs ds := by
  obtain ⟨v, h1, h2⟩ := rel.slot j _ h
  cases h2 with
  | one h2 =>
    cases h2 with
    | frz i => cases i with
      | lst y1 y2 => exact ⟨_, _, h1, same_rd rel.le y1, y2⟩
    | lst y1 y2 y3 => exact ⟨_, _, h1, Rd.of y2, y3⟩
theorem sat_ixL {j : Nat} {t : TE} {Fi : Env → Out D} (h : Sat K B W (IsR K) t Fi) : Sat K B W (IsR K) (tOp (rIx K) (tVar j) t) (fIxL j Fi) := by
  intro b G H ω σ ρ rel Q post
  unfold fIxL at post
  split at post
  · rename_i hl
    unfold isLst at hl
    split at hl
    · rename_i o ds e
      obtain ⟨a, xs, h1, _, _⟩ := slot_list rel e
      refine ⟨.ref a, h1, h.at (R' := IsR K) (Q := Q) rel post fun G1 H1 ω1 ρ1 y i rel1 s1 iy p => ?_⟩
      split at p
      · rename_i o' ds' k e2
        obtain ⟨a', xs', q1, q2, q3⟩ := slot_list rel1 e2
        rw [h1] at q1
        cases q1
        cases iy
        cases e3 : atI ds' k with
        | none => rw [e3] at p; exact p.elim
        | some d =>
          rw [e3] at p
          obtain ⟨v, z1, z2⟩ := at_v q3 e3
          exact .inl ⟨a, xs', k, v, rfl, rfl, .inl q2, z1, Post.now rel1 p z2⟩
      · exact p.elim
    · cases hl
  · exact post.elim
end
section
variable {X : Cx} {B : By} {W : WX} {e c : Expr} {te ti : TE} {Fe Fi : Env → Out D} {pos : Pos}
theorem d_bor (j : Nat) (h : DE X B W e te Fe) : DE X B W e te (fBor j Fe) := ⟨h.pe, sat_bor h.sat⟩
theorem t_bor (j : Nat) {tt : TT} {T : Env → Out Bool} (h : DT X B W e tt T) : DT X B W e tt (fBorT j T) := ⟨h.pt, sat_borT h.sat⟩
theorem d_ixL (j : Nat) {x : Str} {px : Pos} (hi : DE X B W c ti Fi) (hs : PlainIx c := by exact fun _ _ => rfl) (hN : X.N[j]? = some x := by rfl) (hv : Vis X.env.scope x := by first | exact Or.inl rfl | exact Or.inr (Or.inl rfl) | exact Or.inr (Or.inr rfl)) (hd : (x == ("__debug__" : Str)) = false := by decide)
    (hcd : (x == ("__classdict__" : Str)) = false := by decide) : DE X B W (.Subscript (.Name x px) c pos) (tOp (rIx X.K) (tVar j) ti) (fIxL j Fi) := ⟨pe_ix ix_seq (pe_var hN hv hd hcd) hi.pe hs, sat_ixL hi.sat⟩
theorem hu65 {k : Nat} {A : Around} (r : Room k A) : A.units + 65 < cLine := by have := r.un; omega
end

end DL
set_option Elab.async false
set_option linter.all false
set_option maxRecDepth 100000
set_option maxHeartbeats 1000000
namespace DL
open PySem PySem.Spec PyProof.Rows L2

/-- the weakest wish of a suite -/
def tOf (K : PySem.W.Frag) (B : By) (W : WX) (F : Env → SOut) : TS := fun Dn σ H => ∃ b G ω ρ, Rel K b B G H ω σ ρ ∧ PostS K B W b G H ω Dn (F ρ)
theorem pss_of {X : Cx} {B : By} {W : WX} {st : List Stmt} {F : Env → SOut} (h : ∃ t, DSs X B W st t F) : PSs X st (tOf X.K B W F) := by
  obtain ⟨t, h⟩ := h
  exact ⟨fun pins s σ H D I ⟨b, G, ω, ρ, rel, post⟩ => h.ps.run pins s σ H D I (h.sat b G H ω σ ρ rel D post)⟩

/-! ### raise -/
/-- an own exception class, by its name -/
structure Cls (K : PySem.W.Frag) (mg : Str → Option Value) (n : String) (C : Addr) : Prop where
  ns : PySem.W.nsIn K mainGlobals (n : Str) = some (some (.ref C))
  at' : mg (n : Str) = some (.ref C)
  keep : PySem.W.keepIn K (.ref C) = true
  sub : PySem.W.subIn K (.ref C) (.type "BaseException") = some true
  ty : PySem.W.typeIn K (.ref C) = some (.type "type")
  isC : PySem.W.isClsIn K C = true
theorem exm_of {K : PySem.W.Frag} {C S : Addr} {b : Bool} (h1 : PySem.W.subIn K (.ref S) (.type "BaseException") = some true) (h2 : PySem.W.isClsIn K S = true) (h3 : PySem.W.typeIn K (.ref S) = some (.type "type"))
    (h4 : PySem.W.subIn K (.ref C) (.ref S) = some b) : PySem.W.exmOne K (.ref C) (.ref S) = some b := by
  have h2' : (PySem.W.clsIn K S).isSome = true := h2
  unfold PySem.W.exmOne
  rw [h1, if_pos (by decide)]
  show (if ((PySem.W.clsIn K S).isSome && PySem.W.typeIn K (.ref S) == some (.type "type")) = true then PySem.W.subIn K (.ref C) (.ref S) else none) = some b
  rw [h2', h3, if_pos (by decide), h4]
def sRaise (n : String) : Env → SOut := fun ρ => .ex ⟨n, []⟩ ρ
section
variable {X : Cx} {B : By} {W : WX} {C : Addr} {bmB : List Value} {Bn newId initId : String}
theorem ds_raise {n : String} {m : Str} {j : Nat} {p p2 pos pos' : Pos} (hc : X.calm = true) (tk : Takes X W) (F : ExcBaseFacts Bn newId initId bmB) (T : Cls X.K X.mg n C) (q : PySem.W.excIn X.K C bmB newId = true)
    (hg : Gl X (n : Str)) (hdb : ((n : Str) == ("__debug__" : Str)) = false := by decide) :
    DS X B W (.Raise (some (.Call (.Name (n : Str) p) [.Constant (.str m) j p2] [] pos)) none pos') (fun _ σ H => W (.ref C) none σ H) (sRaise n) :=
  ⟨ps_raise hc tk (pmk_own F q T.at' T.keep (raises_own T.sub T.ty) hg hdb), fun b G H ω σ ρ rel Dn post => post (.ref C) none σ G H ω rel .refl ⟨⟨C, rfl, T.ns⟩, .inl ⟨rfl, rfl⟩⟩⟩
end

/-! ### try -/
structure Hd where
  yes : List String
  no : List String
  F : Env → SOut
def noEx : SOut → SOut
  | .ex _ _ => .no
  | o => o
def hdsD : List Hd → Exn → Env → SOut
  | [], c, ρ => .ex c ρ
  | h :: r, c, ρ => if c.cls ∈ h.yes then noEx (h.F ρ) else if c.cls ∈ h.no then hdsD r c ρ else .no
def sTry (Fb : Env → SOut) (hds : List Hd) : Env → SOut := fun ρ => match Fb ρ with
  | .ex c ρ1 => hdsD hds c ρ1
  | .nx ρ1 => .nx ρ1
  | .rt d ρ1 => .rt d ρ1
  | .bk ρ1 => .bk ρ1
  | .ct ρ1 => .ct ρ1
  | .no => .no
abbrev HdT := List (Value × (Addr → Value → Option Addr → TS))
/-- the handler for c (does not) catch an error of the class of this name -/
def Exm (K : PySem.W.Frag) (c : Value) (b : Bool) (n : String) : Prop := ∀ C : Addr, PySem.W.nsIn K mainGlobals (n : Str) = some (some (.ref C)) → PySem.W.exmOne K (.ref C) c = some b
theorem Cls.exm {K : PySem.W.Frag} {mg : Str → Option Value} {n n' : String} {C S : Addr} {b : Bool} (T : Cls K mg n C) (T' : Cls K mg n' S) (h : PySem.W.subIn K (.ref C) (.ref S) = some b) : Exm K (.ref S) b n := fun C' e => by
  rw [T.ns] at e
  cases e
  exact exm_of T'.sub T'.isC T'.ty h
theorem exm_nil {K : PySem.W.Frag} {c : Value} {b : Bool} : ∀ n ∈ ([] : List String), Exm K c b n := fun n h => by cases h
theorem exm_cons {K : PySem.W.Frag} {c : Value} {b : Bool} {n : String} {l : List String} (h : Exm K c b n) (r : ∀ n ∈ l, Exm K c b n) : ∀ n' ∈ n :: l, Exm K c b n' := fun n' m => by
  rcases List.mem_cons.mp m with e | e
  · rw [e]; exact h
  · exact r n' e
inductive DHs (X : Cx) (B : By) : List ExceptHandler → List Hd → HdT → Prop
  | nil : DHs X B [] [] []
  | cons {x : Str} {c : Value} {b₀ : Stmt} {suite : List Stmt} {np pos' : Pos} {hds : List ExceptHandler} {l : List Hd} {ts : HdT} {yes no : List String} {F : Env → SOut} (hc : Names X x c)
      (hy : ∀ n ∈ yes, Exm X.K c true n) (hn : ∀ n ∈ no, Exm X.K c false n)
      (hs : ∀ (a : Addr) (oe : Obj) (pn : List (Addr × Obj)), ∃ t, DSs (X.suite a ((a, oe) :: pn)) B W0 (b₀ :: suite) t F) (r : DHs X B hds l ts) :
      DHs X B (.ExceptHandler (some (.Name x np)) none (b₀ :: suite) pos' :: hds) (⟨yes, no, F⟩ :: l) ((c, fun _ _ _ => tOf X.K B W0 F) :: ts)
section
variable {X : Cx} {B : By} {W : WX}
theorem DHs.ok : ∀ {hds : List ExceptHandler} {l : List Hd} {ts : HdT}, DHs X B hds l ts → HdsOk X hds ts
  | _, _, _, .nil => .nil
  | _, _, _, .cons hc hy hn hs r => .cons hc (fun a oe cls d pn _ _ => pss_of (hs a oe pn)) r.ok
theorem DHs.wish {Dn : Ends} {b : Bs} {G H : Hp} {ω : Lb} {σ : L2.St} {ρ : Env} {c : Exn} {cls : Value} {dd : Option Addr} (rel : Rel X.K b B G H ω σ ρ) (ix : IsX X.K G H c cls dd) :
    ∀ {hds : List ExceptHandler} {l : List Hd} {ts : HdT}, DHs X B hds l ts → PostS X.K B W b G H ω Dn (hdsD l c ρ) → wMany X.K W Dn ts cls dd σ H
  | _, _, _, .nil, post => post cls dd σ G H ω rel .refl ix
  | _, _, _, .cons (yes := yes) (no := no) (F := F) hc hy hn hs r, post => by
    unfold hdsD at post
    dsimp only at post
    obtain ⟨C, ec, en⟩ := ix.1
    split at post
    · rename_i m
      refine ⟨true, by rw [ec]; exact hy _ m C en, fun _ a ha => ⟨b, G, ω, ρ, rel, ?_⟩, (fun z => by cases z)⟩
      cases e : F ρ with
      | ex c' ρ' => rw [e] at post; exact post.elim
      | nx ρ' => rw [e] at post; exact post
      | rt d ρ' => rw [e] at post; exact post
      | bk ρ' => rw [e] at post; exact post
      | ct ρ' => rw [e] at post; exact post
      | no => rw [e] at post; exact post
    · split at post
      · rename_i m
        exact ⟨false, by rw [ec]; exact hn _ m C en, (fun z => by cases z), fun _ => DHs.wish rel ix r post⟩
      · exact post.elim
theorem ds_try {body : List Stmt} {h₀ : ExceptHandler} {hds : List ExceptHandler} {l : List Hd} {ts : HdT} {pos : Pos} {Fb : Env → SOut} (hs : X.stack = X.env :: X.outer) (hf : X.env.frame = some X.env.locals) (tk : Takes X W)
    (hb : ∀ (W' : WX) (pn : List (Addr × Obj)) (xe : Value → Shared → Prop), Takes (X.tr pn xe) W' → PassesOwn (model X.prog X.w) X.A X.env xe → ∃ t, DSs (X.tr pn xe) B W' body t Fb) (hh : DHs X B (h₀ :: hds) l ts) :
    DS X B W (.Try body (h₀ :: hds) [] [] pos) (fun Dn σ H => tOf X.K B (wMany X.K W Dn ts) Fb Dn σ H) (sTry Fb l) := by
  refine ⟨ps_try_many (tb := fun W' => tOf X.K B W' Fb) hs hf tk (fun W' pn xe tk' po => pss_of (hb W' pn xe tk' po)) hh.ok, fun b G H ω σ ρ rel Dn post => ⟨b, G, ω, ρ, rel, ?_⟩⟩
  unfold sTry at post
  cases e : Fb ρ with
  | ex c ρ1 =>
    rw [e] at post
    intro cls dd σ' G' H' ω' r1 t1 ix
    exact hh.wish r1 ix (PostS.from t1 post)
  | nx ρ' => rw [e] at post; exact post
  | rt d ρ' => rw [e] at post; exact post
  | bk ρ' => rw [e] at post; exact post
  | ct ρ' => rw [e] at post; exact post
  | no => rw [e] at post; exact post
end
end DL
set_option Elab.async false
set_option linter.all false
set_option maxRecDepth 100000
set_option maxHeartbeats 1000000
namespace DL
open PySem PySem.Spec PyProof.Rows L2
abbrev Own' (X : Cx) : Prop := PassesOwn (model X.prog X.w) X.A X.env X.xe
section
variable {X : Cx} {B : By} {W : WX} {tg e iter : Expr} {es : List Expr} {body : List Stmt} {te : TE} {ta : TA} {tc : TT} {wi : TI} {g : TG} {tb : TS} {Fe : Env → Out D} {Fa F : Env → Out (List D)} {Fg : D → Env → Option Env} {T : Env → Out Bool} {Fb : Env → SOut} {p pos : Pos}
theorem di_any (h : DE X B W e te Fe) : DI X B W tg e (iAny X.K te) (fAny Fe) := ⟨pi_any h.pe, si_any h.sat⟩
theorem di_rng1 {a : Expr} (hg : Gl X "range") (hm : X.mg "range" = none) (ha : DA X B W [a] ta Fa) (hs : starEach [a] X.env = [(false, eval a X.env)] := by rfl) : DI X B W tg (.Call (.Name "range" p) [a] [] pos) (iRng1 ta) (fRng1 Fa) :=
  ⟨pi_range1 hg hm ha.pa hs, si_rng1 ha.sat⟩
theorem di_rng2 {a c : Expr} (hg : Gl X "range") (hm : X.mg "range" = none) (ha : DA X B W [a, c] ta Fa) (hs : starEach [a, c] X.env = [(false, eval a X.env), (false, eval c X.env)] := by rfl) (hs2 : starEach [c] X.env = [(false, eval c X.env)] := by rfl) :
    DI X B W tg (.Call (.Name "range" p) [a, c] [] pos) (iRng2 ta) (fRng2 Fa) := ⟨pi_range2 hg hm ha.pa hs hs2, si_rng2 ha.sat⟩
theorem ds_for (hp : Own' X) (hc : X.calm = true) (hi : DI X B W tg iter wi F) (hg : DG X B tg g Fg) (hb : DSs X B W body tb Fb) (hs : ∀ x, foldedSetIterable iter X.env x = pure x := by intro _; rfl) :
    DS X B W (.For tg iter body [] pos) (tFor wi g tb) (sFor F Fg Fb) := ⟨ps_for hp hc hi.pi hg.pg hb.ps hs, ss_for hi.sat hg.sat hb.sat⟩
theorem ds_while (n : Nat) (hp : Own' X) (hc : DT X B W e tc T) (hb : DSs X B W body tb Fb) : DS X B W (.While e body [] pos) (tWhile tc tb) (whileD T Fb n) := ⟨ps_while hp hc.pt hb.ps, ss_while n hc.sat hb.sat⟩
end
/-! ### what the built-in names stand for -/
theorem bt_int : bootBuiltins "int" = some (.type "int") := by decide +kernel
theorem bt_str : bootBuiltins "str" = some (.type "str") := by decide +kernel
theorem bt_bool : bootBuiltins "bool" = some (.type "bool") := by decide +kernel
theorem bt_list : bootBuiltins "list" = some (.type "list") := by decide +kernel
theorem bt_tuple : bootBuiltins "tuple" = some (.type "tuple") := by decide +kernel
theorem bt_dict : bootBuiltins "dict" = some (.type "dict") := by decide +kernel
theorem bt_set : bootBuiltins "set" = some (.type "set") := by decide +kernel
theorem bt_type : bootBuiltins "type" = some (.type "type") := by decide +kernel
theorem bt_zip : bootBuiltins "zip" = some (.type "zip") := by decide +kernel
theorem bt_enumerate : bootBuiltins "enumerate" = some (.type "enumerate") := by decide +kernel
theorem bt_range : bootBuiltins "range" = some (.type "range") := by decide +kernel
theorem bt_object : bootBuiltins "object" = some (.type "object") := by decide +kernel
theorem bt_len : bootBuiltins "len" = some (.builtin "len") := by decide +kernel
theorem bt_abs : bootBuiltins "abs" = some (.builtin "abs") := by decide +kernel
theorem bt_max : bootBuiltins "max" = some (.builtin "max") := by decide +kernel
theorem bt_min : bootBuiltins "min" = some (.builtin "min") := by decide +kernel
theorem bt_sum : bootBuiltins "sum" = some (.builtin "sum") := by decide +kernel
theorem bt_all : bootBuiltins "all" = some (.builtin "all") := by decide +kernel
theorem bt_any : bootBuiltins "any" = some (.builtin "any") := by decide +kernel
theorem bt_isinstance : bootBuiltins "isinstance" = some (.builtin "isinstance") := by decide +kernel
theorem bt_divmod : bootBuiltins "divmod" = some (.builtin "divmod") := by decide +kernel
theorem bt_sorted : bootBuiltins "sorted" = some (.builtin "sorted") := by decide +kernel
theorem bt_repr : bootBuiltins "repr" = some (.builtin "repr") := by decide +kernel
section
variable {P : Program} {w : World} {K : PySem.W.Frag} {mg : Str → Option Value} {base : Heap}
theorem fn_g {x qual : Str} {st : Stmt} {f : Addr} {fd : FuncData} {k np n nb : Nat} {m : List D → FOut} (N ps : List Str) (Fb : DL.Env → SOut) (F : Fun K x qual st f fd) (S : FnScope N ps (defScope st)) (hm : m = runF nb n Fb) (hp : ps.length = np) (hn : N.length = n) (hpn : ps.length ≤ N.length)
    (hbody : ∀ (cdv : Value) (A : Around) (outer : List PySem.Env) (s : Shared) (H : Hp) (E : XK), Room k (A.deeper (envOfC qual (defScope st) s.heap.objs.size f cdv)) →
      ∃ t, DSs (cxOf (L2.CX P w) P w K mg base N qual (defScope st) f cdv A outer s H E) ⟨List.range nb, []⟩ (fun cls d _ H => E cls d H) (defBody st) t Fb) :
    FnOk P w K mg base (L2.CX P w) (k + 1) f fd ps (spOf K nb np m) := by
  subst hm hp hn
  exact fn_d F S hbody hpn
end
/-! ### comprehensions: the element's wish is the weakest one -/
def tOfE {α β : Type} (K : PySem.W.Frag) (B : By) (W : WX) (R : Rep α β) (F : DL.Env → Out α) : L2.St → Hp → (β → Hp → Prop) → Prop := fun σ H Q => ∃ b G ω ρ, Rel K b B G H ω σ ρ ∧ Post K B W b G H ω σ R Q (F ρ)
theorem sat_of {α β : Type} {K : PySem.W.Frag} {B : By} {W : WX} {R : Rep α β} {F : DL.Env → Out α} : Sat K B W R (tOfE K B W R F) F := fun b G H ω σ ρ rel Q post => ⟨b, G, ω, ρ, rel, post⟩
section
variable {X : Cx} {B : By} {W : WX} {elt tg iter : Expr} {ifs : List Expr} {scope : Scope} {own : List (Str × Nat)} {pos : Pos} {wi : TI} {F : DL.Env → Out (List D)} {Fg : D → DL.Env → Option DL.Env} {T : DL.Env → Out Bool} {Fe : DL.Env → Out D}
theorem DE.can {e : Expr} (h : ∃ t, DE X B W e t Fe) : DE X B W e (tOfE X.K B W (IsR X.K) Fe) Fe := by
  obtain ⟨t, h⟩ := h
  exact ⟨⟨fun pins s σ H Q I ⟨b, G, ω, ρ, rel, post⟩ => h.pe.run pins s σ H Q I (h.sat b G H ω σ ρ rel Q post)⟩, sat_of⟩
theorem DTs.can {es : List Expr} (h : ∃ t, DTs X B es t T) : DTs X B es (tOfE X.K B W0 (EqR Bool) T) T := by
  obtain ⟨t, h⟩ := h
  exact ⟨⟨fun pins s σ H Q I ⟨b, G, ω, ρ, rel, post⟩ => h.pts.run pins s σ H Q I (h.sat b G H ω σ ρ rel Q post)⟩, sat_of⟩
theorem o_lcx (g : TG) (hc : X.calm = true) (hN : X.N.Nodup) (hi : DI X B W tg iter wi F) (ok : BlkOk X.N X.env.scope scope own)
    (hg : ∀ (s : Shared) (H : Hp) (C : Addr) (cl : List (Str × Addr)) (fp : List Addr), DK (X.blk s H scope (compEnvC scope cl C X.env) fp) B (own.map (·.2)) tg g Fg)
    (ht : ∀ (s : Shared) (H : Hp) (C : Addr) (cl : List (Str × Addr)) (fp : List Addr), ∃ tt, DTs (X.blk s H scope (compEnvC scope cl C X.env) fp) B ifs tt T)
    (he : ∀ (s : Shared) (H : Hp) (C : Addr) (cl : List (Str × Addr)) (fp : List Addr), ∃ te, DE (X.blk s H scope (compEnvC scope cl C X.env) fp) B W0 elt te Fe)
    (hv : ∀ i ∈ own.map (·.2), i ∉ B.l := by decide) (hs : ∀ x, foldedSetIterable iter X.env x = pure x := by intro _; rfl) :
    DO X B W (.ListComp elt [⟨tg, iter, ifs, 0⟩] scope pos) (tLc wi g (tOfE X.K B W0 (EqR Bool) T) (tOfE X.K B W0 (IsR X.K) Fe) (own.map (·.2))) (fLc (own.map (·.2)) F Fg T Fe) :=
  o_lc hc hN hi ok hg (fun s H C cl fp => DTs.can (ht s H C cl fp)) (fun s H C cl fp => DE.can (he s H C cl fp)) hv hs
theorem ds_setLcx (i : Nat) (g : TG) {y : Str} {py spos : Pos} (hc : X.calm = true) (hN : X.N.Nodup) (hi : DI X B W tg iter wi F) (ok : BlkOk X.N X.env.scope scope own)
    (hg : ∀ (s : Shared) (H : Hp) (C : Addr) (cl : List (Str × Addr)) (fp : List Addr), DK (X.blk s H scope (compEnvC scope cl C X.env) fp) B (own.map (·.2)) tg g Fg)
    (ht : ∀ (s : Shared) (H : Hp) (C : Addr) (cl : List (Str × Addr)) (fp : List Addr), ∃ tt, DTs (X.blk s H scope (compEnvC scope cl C X.env) fp) B ifs tt T)
    (he : ∀ (s : Shared) (H : Hp) (C : Addr) (cl : List (Str × Addr)) (fp : List Addr), ∃ te, DE (X.blk s H scope (compEnvC scope cl C X.env) fp) B W0 elt te Fe)
    (hsw : swapsWith (.ListComp elt [⟨tg, iter, ifs, 0⟩] scope pos) (some (.Name y py)) spos.line X.env = pure true)
    (hv : ∀ i ∈ own.map (·.2), i ∉ B.l := by decide) (hy : X.N[i]? = some y := by rfl) (hyl : X.env.scope.names.lookup y = some .local := by rfl) (hs : ∀ x, foldedSetIterable iter X.env x = pure x := by intro _; rfl) :
    DS X B W (.Assign [.Name y py] (.ListComp elt [⟨tg, iter, ifs, 0⟩] scope pos) spos) (tAsg (tLc wi g (tOfE X.K B W0 (EqR Bool) T) (tOfE X.K B W0 (IsR X.K) Fe) (own.map (·.2))) (gName i)) (sAsg (fLc (own.map (·.2)) F Fg T Fe) (gN B.l i)) :=
  ds_setLc i hc hN hi ok hg (fun s H C cl fp => DTs.can (ht s H C cl fp)) (fun s H C cl fp => DE.can (he s H C cl fp)) hsw hv hy hyl hs
end
end DL
set_option Elab.async false
set_option linter.all false
set_option maxRecDepth 100000
set_option maxHeartbeats 1000000
namespace DL
open PySem PySem.Spec PyProof.Rows L2

/-! ### constants of the module -/
def GC (K : PySem.W.Frag) (mg : Str → Option Value) (x : Str) (d : D) : Prop := ∃ (v : V) (u : Value), mg x = some u ∧ RelV v u ∧ ∀ G, Is K G v d
section
variable {X : Cx} {B : By} {W : WX}
theorem DE.canO {e : Expr} {Fe : DL.Env → Out D} (h : ∃ t, DO X B W e t Fe) : DO X B W e (tOfE X.K B W (OwnR X.K) Fe) Fe := by
  obtain ⟨t, h⟩ := h
  exact ⟨⟨fun pins s σ H Q I ⟨b, G, ω, ρ, rel, post⟩ => h.pe.run pins s σ H Q I (h.sat b G H ω σ ρ rel Q post)⟩, sat_of⟩
theorem d_gc {x : Str} {d : D} {pos : Pos} (h : GC X.K X.mg x d) (hg : Gl X x) (hd : (x == ("__debug__" : Str)) = false := by decide) : DE X B W (.Name x pos) (tOfE X.K B W (IsR X.K) (fC d)) (fC d) := by
  obtain ⟨v, u, h1, h2, h3⟩ := h
  exact DE.can ⟨_, d_glob h3 hg h1 h2 hd⟩
end
section
variable {K : PySem.W.Frag} {mg : Str → Option Value} {x : Str}
theorem gc_int {n : Int} {t : Tok} (h : mg x = some (.int n t)) : GC K mg x (.int n) := ⟨.int n, _, h, ⟨t, rfl⟩, fun _ => .int n⟩
theorem gc_str {n : Str} {t : Tok} (h : mg x = some (.str n t)) : GC K mg x (.str n) := ⟨.str n, _, h, ⟨t, rfl⟩, fun _ => .str n⟩
/-- a tuple that the module's text has laid -/
theorem is_mtup {a : Addr} {vs : List V} {ds : List D} {o : Obj} {its : List Value} {n : Nat} (h : K.lookup a = some o) (hc : o.cls = .type "tuple") (hd : o.data = .seq its.toArray n) (hz : its.length ≤ sizeLine) (r : Vals vs its) (i : ∀ G, IsAll K G vs ds) : ∀ G, Is K G (.ref a) (.tup ds) :=
  fun G => .tup (.inr ⟨o, its.toArray, n, h, hc, hd, by rw [List.size_toArray]; exact hz, by simpa using r⟩) (i G)
theorem gc_ref {a : Addr} {d : D} (h : mg x = some (.ref a)) (i : ∀ G, Is K G (.ref a) d) : GC K mg x d := ⟨.ref a, _, h, rfl, i⟩
end

/-! ### defaults -/
def BD (K : PySem.W.Frag) (fd : FuncData) (ps : List Str) (dds : List D) : Prop := ∃ (ds : List Value) (dvs : List V), Binds K fd ps ds ∧ Vals dvs ds ∧ Const K dvs dds
theorem bd_of {K : PySem.W.Frag} {fd : FuncData} {ps : List Str} {dvs : List V} {dds : List D} (h : ∃ ds, Vals dvs ds ∧ Binds K fd ps ds) (c : Const K dvs dds) : BD K fd ps dds := by
  obtain ⟨ds, h1, h2⟩ := h
  exact ⟨ds, dvs, h2, h1, c⟩
section
variable {X : Cx} {B : By} {W : WX} {k np : Nat} {f : Addr} {fd : FuncData} {ps : List Str} {m : List D → FOut} {js : List Nat} {dds : List D} {x : Str} {p pos : Pos} {e : Expr} {es : List Expr} {t : TA} {F : DL.Env → Out (List D)}
theorem o_callD (Fn : FnOk X.prog X.w X.K X.mg X.base (L2.CX X.prog X.w) k f fd ps (spOf X.K js.length np m)) (hr : Room k X.A) (tk : Takes X W) (hm : X.mg x = some (.ref f)) (hk : PySem.W.keepIn X.K (.ref f) = true) (hb : BD X.K fd ps dds)
    (ha : DB X B W js (e :: es) t F) (nd : js.Nodup := by decide) (hnp : js.length ≤ np := by decide) (hg : Gl X x := by rfl) (hdb : (x == ("__debug__" : Str)) = false := by decide) (he : starEach (e :: es) X.env = (false, eval e X.env) :: starEach es X.env := by rfl)
    (hpl : (backTo pos (starEach es X.env)).any (·.1) = false := by rfl) : DO X B W (.Call (.Name x p) (e :: es) [] pos) (tOfE X.K B W (OwnR X.K) (fCallN np js dds m F)) (fCallN np js dds m F) := by
  obtain ⟨ds, dvs, h1, h2, h3⟩ := hb
  exact DE.canO ⟨_, o_call Fn hr tk hm hk h1 h2 h3 ha nd hnp hg hdb he hpl⟩
end
section
variable {P : Program} {w : World} {K : PySem.W.Frag} {mg : Str → Option Value} {base : Heap}
theorem fn_gD {x qual : Str} {params : Arguments} {body : List Stmt} {scope : Scope} {dvs : List V} {kws : List (Str × V)} {f : Addr} {fd : FuncData} {k np n nb : Nat} {m : List D → FOut} (N ps : List Str) (Fb : DL.Env → SOut) (F : FunD K x qual params body scope dvs kws f fd) (S : FnScope N ps scope)
    (hm : m = runF nb n Fb) (hp : ps.length = np) (hn : N.length = n) (hpn : ps.length ≤ N.length)
    (hbody : ∀ (cdv : Value) (A : Around) (outer : List PySem.Env) (s : Shared) (H : Hp) (E : XK), Room k (A.deeper (envOfC qual scope s.heap.objs.size f cdv)) →
      ∃ t, DSs (cxOf (L2.CX P w) P w K mg base N qual scope f cdv A outer s H E) ⟨List.range nb, []⟩ (fun cls d _ H => E cls d H) body t Fb) :
    FnOk P w K mg base (L2.CX P w) (k + 1) f fd ps (spOf K nb np m) := by
  subst hm hp hn
  exact fn_dD F S hbody hpn
end

/-! ### a list times a number -/
def rRepL : R2 := fun x y H Q => ∃ l k xs, x = .ref l ∧ y = .int k ∧ Rd H l (.lst xs) ∧ (-(2 ^ 63) ≤ k ∧ k < 2 ^ 63) ∧ xs.length * k.toNat ≤ sizeLine ∧ ∀ p, H p = none → Q (.ref p) (upd H p (.lst (List.replicate k.toNat xs).flatten))
theorem op_repL {X : Cx} : OpR X (binaryOp .Mult) rRepL := by
  intro pins s σ H x y v u Q I rx ry h
  obtain ⟨l, k, xs, rfl, rfl, hR, hk, hz, q⟩ := h
  cases rx
  obtain ⟨t, rfl⟩ := ry
  obtain ⟨_, its, n, r, e⟩ := rd_list I hR
  have hl := r.length
  have z1 : its.toArray.size * k.toNat ≤ sizeLine := by
    rw [List.size_toArray, ← hl]
    exact hz
  have z2 : ¬ its.toArray.size * k.toNat > (2 ^ 63 - 1) / 8 := by
    have z : (sizeLine : Nat) ≤ (2 ^ 63 - 1) / 8 := by decide
    omega
  have z3 : ¬ (!Builtin.List.listFitsIndex k) = true := by rw [fitsIndex_both hk.1 hk.2]; decide
  have z4 : ¬ Builtin.List.listTooLong (its.toArray.size * k.toNat) = true := by rw [notLongL z1]; decide
  have z5 : List.foldl (fun x1 x2 => x1 ++ x2) #[] (List.replicate (if its.toArray.isEmpty = true then 0 else k.toNat) its.toArray) = (List.replicate k.toNat its).flatten.toArray := by
    have f0 : ∀ m : Nat, List.foldl (fun x1 x2 => x1 ++ x2) #[] (List.replicate m its.toArray) = (List.replicate m its).flatten.toArray := fun m => by
      have z := foldl_rep its m []
      rw [List.nil_append] at z
      exact z
    rw [f0]
    cases its with
    | nil => simp
    | cons a r' => rw [if_neg (by simp)]
  have last := I.lnew (t' := s.toks) (r.rep k.toNat) (by rw [PyProof.Rows.lm_len_rep_flat, Nat.mul_comm]; exact hz)
  refine wpAny_binaryOp_repeat_ref (T := "list") (U := "int") (by decide) ⟨_, e, rfl⟩ (fun s' => typeIs_int s' k t) noFill_list_mul F.fills_int_mul F.slot_int_rmul repeat_list F.slot_int_index.lookup ?_
  refine call_meets F.slot_int_rmul (typeIs_int s k t) F.entry_int_rmul (F.args_int_rmul_2 _ _) (int___rmul___int_list k t l its.toArray n) ⟨e, rfl, ⟨_, e, rfl⟩, ?_⟩
  refine call_meets F.slot_list_mul ⟨_, e, rfl⟩ F.entry_list_mul (F.args_list_mul_2 _ _) (AutoListH.list___mul___list_int_3 l its.toArray n k t z3 z2 z4) ⟨e, ?_⟩
  rw [z5]
  exact ⟨.ref _, _, last, rfl, q _ I.fresh⟩
def repD (k : Nat) (ds : List D) : List D := (List.replicate k ds).flatten
def mulL : D → D → Res
  | .int a, .int b => if IntMulOk a b then .val (.int (a * b)) else .no
  | .lst _ ds, .int k => if 0 ≤ k ∧ k ≤ 4096 ∧ ds.length ≤ 4096 then .new (repD k.toNat ds) else .no
  | _, _ => .no
theorem op_mulL {X : Cx} : OpR X (binaryOp .Mult) (fun x y H Q => rI IntMulOk (fun i j => .int (i * j)) x y H Q ∨ rRepL x y H Q) := op_mulA.or op_repL
theorem isAll_rep {K : PySem.W.Frag} {G : Hp} {xs : List V} {ds : List D} (h : IsAll K G xs ds) : ∀ k : Nat, IsAll K G (List.replicate k xs).flatten (repD k ds)
  | 0 => .nil
  | k + 1 => by
    unfold repD
    rw [List.replicate_succ, List.replicate_succ, List.flatten_cons, List.flatten_cons]
    exact h.append (isAll_rep h k)
theorem mulL_v {K : PySem.W.Frag} : OpV K (fun x y H Q => rI IntMulOk (fun i j => .int (i * j)) x y H Q ∨ rRepL x y H Q) mulL := by
  intro G H x y a c le ia ic Q post
  cases ia <;> cases ic <;> first
    | exact post.elim
    | skip
  · have p : PostR K G H Q (if _ then _ else _) := post
    split at p
    · rename_i hz
      exact .inl ⟨_, _, rfl, rfl, hz, p.here le (.int _)⟩
    · exact p.elim
  · rename_i a xs ds hr hi k
    have p : PostR K G H Q (if _ then _ else _) := post
    split at p
    · rename_i hz
      have hl := hi.length
      refine .inr ⟨a, k, xs, rfl, rfl, same_rd le hr, ⟨by omega, by omega⟩, ?_, fun q hq => p q _ hq (isAll_rep hi _)⟩
      rw [sizeLine_eq, hl]
      exact Nat.le_trans (Nat.mul_le_mul hz.2.2 (by omega : k.toNat ≤ 4096)) (by decide)
    · exact p.elim

/-! ### repr of what is flat -/
def reprD : List D → Res
  | [.int i] => if i.natAbs.log2 < 1920 then .val (.str (toString i)) else .no
  | [.bl k] => .val (.str (if k = true then "True" else "False"))
  | [.non] => .val (.str "None")
  | [.str x] => if (reprText x).length ≤ sizeLine then .val (.str (reprText x)) else .no
  | _ => .no
def rReprF : List V → Hp → VK → Prop := fun xs H Q => (∃ i : Int, xs = [.int i] ∧ i.natAbs.log2 < 1920 ∧ Q (.str (toString i)) H) ∨ ((∃ k, xs = [.bl k] ∧ Q (.str (if k = true then "True" else "False")) H) ∨ ((xs = [.non] ∧ Q (.str "None") H) ∨ ∃ y, xs = [.str y] ∧ (reprText y).length ≤ sizeLine ∧ Q (.str (reprText y)) H))
theorem call_reprF {X : Cx} : CallR X (.builtin "repr") rReprF := by
  intro pins s σ H xs us Q I r h
  rcases h with ⟨i, rfl, hz, q⟩ | ⟨k, rfl, q⟩ | ⟨rfl, q⟩ | ⟨y, rfl, hz, q⟩
  · obtain ⟨u, rfl, t, rfl⟩ := vals1 r
    exact PySem.P.repr_of_int hz ⟨.str _, H, I.tok _, ⟨_, rfl⟩, q⟩
  · obtain ⟨u, rfl, rfl⟩ := vals1 r
    exact PySem.P.repr_of_bool ⟨.str (if k = true then "True" else "False"), H, I.tok _, ⟨_, rfl⟩, q⟩
  · obtain ⟨u, rfl, rfl⟩ := vals1 r
    exact PySem.P.repr_of_none ⟨.str "None", H, I.tok _, ⟨_, rfl⟩, q⟩
  · obtain ⟨u, rfl, t, rfl⟩ := vals1 r
    exact PySem.P.repr_of_str ⟨.str _, H, I.tok _, ⟨_, rfl⟩, q⟩ hz
theorem repr_v {K : PySem.W.Frag} : CallV K rReprF reprD := by
  intro G H xs as le h Q post
  cases h with
  | nil => exact post.elim
  | cons i r =>
    cases r with
    | cons _ _ => cases i <;> exact post.elim
    | nil =>
      cases i <;> first
        | exact post.elim
        | skip
      · exact .inr (.inr (.inl ⟨rfl, PostR.here post le (.str _)⟩))
      · exact .inr (.inl ⟨_, rfl, PostR.here post le (.str _)⟩)
      · have p : PostR K G H Q (if _ then _ else _) := post
        split at p
        · rename_i hz
          exact .inl ⟨_, rfl, hz, p.here le (.str _)⟩
        · exact p.elim
      · have p : PostR K G H Q (if _ then _ else _) := post
        split at p
        · rename_i hz
          exact .inr (.inr (.inr ⟨_, rfl, hz, p.here le (.str _)⟩))
        · exact p.elim

/-! ### xs[::-1] -/
def revD : D → Res
  | .lst _ ds => .new ds.reverse
  | _ => .no
theorem isAll_rev {K : PySem.W.Frag} {G : Hp} : ∀ {xs : List V} {ds : List D}, IsAll K G xs ds → IsAll K G xs.reverse ds.reverse
  | _, _, .nil => .nil
  | _, _, .cons h r => by
    rw [List.reverse_cons, List.reverse_cons]
    exact (isAll_rev r).append (.cons h .nil)
section
variable {X : Cx} {B : By} {W : WX} {e : Expr} {te : TE} {Fe : DL.Env → Out D} {k : Nat} {p1 p2 p3 pos : Pos}
theorem sat_rev {K : PySem.W.Frag} {R : Rep D V} [Back R] {kk : Res → DL.Env → Out D} {t : TE} {F : DL.Env → Out D} (hk : ∀ {b : Bs} {G H : Hp} {ω : Lb} {σ : L2.St} {ρ : DL.Env} {Q : VK} {r : Res}, Rel K b B G H ω σ ρ → Post K B W b G H ω σ R Q (kk r ρ) → PostR K G H Q r)
    (h : Sat K B W (IsR K) t F) : Sat K B W R (tRevL K t) (fun ρ => (F ρ).bind fun a ρ1 => kk (revD a) ρ1) :=
  Sat.bind (R' := R) (Fu := fun a ρ1 => kk (revD a) ρ1) (t := t) (u := fun x σ H Q => ∃ a xs, x = .ref a ∧ SqL K H a xs ∧ ∀ p, H p = none → Q (.ref p) (upd H p (.lst xs.reverse))) h fun b Hs ωs G H ω σ ρ rel x a i Q post => by
    have p := hk rel post
    cases i <;> first
      | exact p.elim
      | skip
    rename_i l xs ds hr hi
    exact ⟨l, xs, rfl, .inl (same_rd rel.le hr), fun q hq => p q _ hq (isAll_rev hi)⟩
def fRev (k : Res → DL.Env → Out D) (F : DL.Env → Out D) : DL.Env → Out D := fun ρ => (F ρ).bind fun a ρ1 => k (revD a) ρ1
theorem d_revL (h : DE X B W e te Fe) : DE X B W (.Subscript e (.Slice none none (some (.UnaryOp .USub (.Constant (.int 1) k p1) p2)) p3) pos) (tRevL X.K te) (fRev resE Fe) := ⟨pe_revL h.pe, sat_rev res_e h.sat⟩
theorem o_revL (h : DE X B W e te Fe) : DO X B W (.Subscript e (.Slice none none (some (.UnaryOp .USub (.Constant (.int 1) k p1) p2)) p3) pos) (tRevL X.K te) (fRev resO Fe) := ⟨pe_revL h.pe, sat_rev res_o h.sat⟩
end
end DL
set_option Elab.async false
set_option linter.all false
set_option maxRecDepth 100000
set_option maxHeartbeats 1000000
namespace DL
open PySem PySem.Spec PyProof.Rows L2 RZ

/-! ### zip -/
def zipD (ds es : List D) : List D := (ds.zip es).map fun p => D.tup [p.1, p.2]
theorem zipD_length {ds es : List D} : (zipD ds es).length = min ds.length es.length := by unfold zipD; rw [List.length_map, List.length_zip]
theorem zipD_get {ds es : List D} {i : Nat} {d e : D} (h1 : ds[i]? = some d) (h2 : es[i]? = some e) : (zipD ds es)[i]? = some (.tup [d, e]) := by
  unfold zipD
  have z : (ds.zip es)[i]? = some (d, e) := List.getElem?_zip_eq_some.mpr ⟨h1, h2⟩
  rw [List.getElem?_map, z]
  rfl
section
variable {K : PySem.W.Frag} {G : Hp}
theorem yld_pair {H' : Hp} {G' H : Hp} {T : Addr} {x y : V} {d e : D} (le : Same G' H) (hT : H T = none) (i1 : Is K G' x d) (i2 : Is K G' y e) :
    ∃ G2, Step G' H G2 (upd H T (.tup [x, y])) ∧ Same G2 (upd H T (.tup [x, y])) ∧ Is K G2 (.ref T) (.tup [d, e]) := by
  have st := Step.new (o := .tup [x, y]) le hT
  exact ⟨_, st, same_both le, .tup (.inl upd_same) (.cons (i1.mono st.g) (.cons (i2.mono st.g) .nil))⟩
theorem yld_zipL {a b : Addr} {xs ys : List V} {ds es : List D} (h1 : Rd G a (.lst xs)) (h2 : Rd G b (.lst ys)) (i1 : IsAll K G xs ds) (i2 : IsAll K G ys es) : Yld K G (Itz K a b) (zipD ds es) where
  go := fun i G' H s le hi => by
    rw [zipD_length] at hi
    have l1 := i1.length
    have l2 := i2.length
    exact ⟨xs, ys, xs[i], ys[i], .inl (same_rd (s.trans le) h1), .inl (same_rd (s.trans le) h2), by simp [show i < xs.length by omega], by simp [show i < ys.length by omega]⟩
  stop := fun i G' H s le hi => by
    rw [zipD_length] at hi
    have l1 := i1.length
    have l2 := i2.length
    exact ⟨xs, ys, .inl (same_rd (s.trans le) h1), .inl (same_rd (s.trans le) h2), by omega⟩
  yld := fun i G' H x H' s le hi y => by
    obtain ⟨T, u, v, rfl, hT, rfl, f1, f2⟩ := y
    obtain ⟨d, d1, d2⟩ := i1.get (f1 xs (.inl (same_rd (s.trans le) h1)))
    obtain ⟨e, e1, e2⟩ := i2.get (f2 ys (.inl (same_rd (s.trans le) h2)))
    obtain ⟨G2, g1, g2, g3⟩ := yld_pair (K := K) (H' := H) le hT (d2.mono s) (e2.mono s)
    exact ⟨_, zipD_get d1 e1, G2, g1, g2, g3⟩
theorem yld_zipT {a b : Addr} {xs ys : List V} {ds es : List D} (h1 : TupAt K G a xs) (h2 : TupAt K G b ys) (i1 : IsAll K G xs ds) (i2 : IsAll K G ys es) : Yld K G (ItzT K a b) (zipD ds es) where
  go := fun i G' H s le hi => by
    rw [zipD_length] at hi
    have l1 := i1.length
    have l2 := i2.length
    exact ⟨xs, ys, xs[i], ys[i], sq_tup (s.trans le) h1, sq_tup (s.trans le) h2, by simp [show i < xs.length by omega], by simp [show i < ys.length by omega]⟩
  stop := fun i G' H s le hi => by
    rw [zipD_length] at hi
    have l1 := i1.length
    have l2 := i2.length
    exact ⟨xs, ys, sq_tup (s.trans le) h1, sq_tup (s.trans le) h2, by omega⟩
  yld := fun i G' H x H' s le hi y => by
    obtain ⟨T, u, v, rfl, hT, rfl, f1, f2⟩ := y
    obtain ⟨d, d1, d2⟩ := i1.get (f1 xs (sq_tup (s.trans le) h1))
    obtain ⟨e, e1, e2⟩ := i2.get (f2 ys (sq_tup (s.trans le) h2))
    obtain ⟨G2, g1, g2, g3⟩ := yld_pair (K := K) (H' := H) le hT (d2.mono s) (e2.mono s)
    exact ⟨_, zipD_get d1 e1, G2, g1, g2, g3⟩
end
def zip2 (as : List D) (ρ1 : DL.Env) : Out (List D) := match as with
  | [.lst _ ds, .lst _ es] => .ok (zipD ds es) ρ1 true
  | [.tup ds, .tup es] => .ok (zipD ds es) ρ1 true
  | _ => .no
def fZip (F : DL.Env → Out (List D)) : DL.Env → Out (List D) := fun ρ => (F ρ).bind zip2
theorem si_zip {K : PySem.W.Frag} {B : By} {W : WX} {t : TA} {F : DL.Env → Out (List D)} (h : Sat K B W (IsAR K) t F) : Sat K B W (YldR K) (iZipA K t) (fZip F) :=
  Sat.bind (R' := YldR K) (Fu := zip2) (t := t) (u := fun vs σ H R => ∃ a b xs ys, vs = [.ref a, .ref b] ∧ ((SqL K H a xs ∧ SqL K H b ys ∧ R (Itz K a b) H) ∨ (SqT K H a xs ∧ SqT K H b ys ∧ R (ItzT K a b) H))) h fun b Hs ωs G H ω σ ρ rel x a i Q post => by
    unfold zip2 at post
    split at post
    · cases i with
      | cons i1 i =>
        cases i with
        | cons i2 i =>
          cases i
          cases i1 with
          | lst r1 a1 =>
            cases i2 with
            | lst r2 a2 => exact ⟨_, _, _, _, rfl, .inl ⟨.inl (same_rd rel.le r1), .inl (same_rd rel.le r2), Post.now rel post (yld_zipL r1 r2 a1 a2)⟩⟩
    · cases i with
      | cons i1 i =>
        cases i with
        | cons i2 i =>
          cases i
          cases i1 with
          | tup r1 a1 =>
            cases i2 with
            | tup r2 a2 => exact ⟨_, _, _, _, rfl, .inr ⟨sq_tup rel.le r1, sq_tup rel.le r2, Post.now rel post (yld_zipT r1 r2 a1 a2)⟩⟩
    · exact post.elim
theorem di_zip {X : Cx} {B : By} {W : WX} {e e2 : Expr} {ta : TA} {F : DL.Env → Out (List D)} {p pos tpos : Pos} {elts : List Expr} {kk : Nat} (hg : Gl X "zip") (hm : X.mg "zip" = none) (ha : DA X B W [e, e2] ta F)
    (hs : starEach [e, e2] X.env = (false, eval e X.env) :: starEach [e2] X.env := by rfl) (hpl : (backTo pos (starEach [e2] X.env)).any (·.1) = false := by rfl) :
    DI X B W (.Tuple elts kk tpos) (.Call (.Name "zip" p) [e, e2] [] pos) (iZipA X.K ta) (fZip F) := ⟨pi_zipA hg hm ha.pa hs hpl, si_zip ha.sat⟩
end DL
namespace DL
open PySem PySem.Spec PyProof.Rows L2 RZ
/-! ### divmod by a larger number -/
def divmodW : List D → Res
  | [.int i, .int j] => if 0 < j ∧ j.natAbs.log2 < 9000 then .val (.tup [.int (i / j), .int (i % j)]) else .no
  | _ => .no
theorem divmodW_v {K : PySem.W.Frag} : CallV K (fun xs H Q => ∃ i j, xs = [.int i, .int j] ∧ CDivP i j ∧ ∀ p, H p = none → Q (.ref p) (upd H p (.tup [.int (i / j), .int (i % j)]))) divmodW := by
  refine call2i (fun G H i j le Q post => ?_) fun as h => ?_
  · have p : PostR K G H Q (if 0 < j ∧ j.natAbs.log2 < 9000 then .val (.tup [.int (i / j), .int (i % j)]) else .no) := post
    split at p
    · rename_i hz
      refine ⟨i, j, rfl, ⟨hz.1, PyProof.noPylong_of_log2 hz.2⟩, fun l hl => p _ (upd G l (.tup [.int (i / j), .int (i % j)])) _ (Step.new le hl) (same_both le) ?_⟩
      exact .tup (.inl upd_same) (.cons (.int _) (.cons (.int _) .nil))
    · exact p.elim
  · unfold divmodW
    split
    · rename_i i j
      exact absurd rfl (h i j)
    · rfl
end DL
set_option Elab.async false
set_option linter.all false
set_option maxRecDepth 100000
set_option maxHeartbeats 1000000
/-! The pure side: how the functions over plain data are worked out. -/
namespace DL
open PySem PySem.Spec PyProof.Rows L2

/-! ### outcomes -/
def Out.q {α : Type} (k : Bool) : Out α → Out α
  | .ok a ρ q => .ok a ρ (k && q)
  | .ex c ρ => .ex c ρ
  | .no => .no
section
variable {α β : Type} {a : α} {ρ ρ1 : Env} {q k : Bool} {f : α → Env → Out β} {g : α → Env → SOut} {G : Env → SOut} {d : D} {c : Exn}
@[simp] theorem bind_ok : (Out.ok a ρ q).bind f = (f a ρ).q q := rfl
@[simp] theorem bind_ex : (Out.ex c ρ : Out α).bind f = .ex c ρ := rfl
@[simp] theorem bind_no : (Out.no : Out α).bind f = .no := rfl
@[simp] theorem q_ok : (Out.ok a ρ q).q k = .ok a ρ (k && q) := rfl
@[simp] theorem q_ex : (Out.ex c ρ : Out α).q k = .ex c ρ := rfl
@[simp] theorem q_no : (Out.no : Out α).q k = .no := rfl
@[simp] theorem s_ok : (Out.ok a ρ q).s g = g a ρ := rfl
@[simp] theorem s_ex : (Out.ex c ρ : Out α).s g = .ex c ρ := rfl
@[simp] theorem s_no : (Out.no : Out α).s g = .no := rfl
def thenS (o : SOut) (G : Env → SOut) : SOut := match o with
  | .nx ρ => G ρ
  | o => o
@[simp] theorem sSeq_ap {F : Env → SOut} : sSeq F G ρ = thenS (F ρ) G := by
  unfold sSeq thenS
  cases F ρ <;> rfl
@[simp] theorem then_nx : thenS (.nx ρ) G = G ρ := rfl
@[simp] theorem then_rt : thenS (.rt d ρ) G = .rt d ρ := rfl
@[simp] theorem then_bk : thenS (.bk ρ) G = .bk ρ := rfl
@[simp] theorem then_ct : thenS (.ct ρ) G = .ct ρ := rfl
@[simp] theorem then_ex : thenS (.ex c ρ) G = .ex c ρ := rfl
@[simp] theorem then_no : thenS .no G = .no := rfl
@[simp] theorem sNil_ap : sNil ρ = .nx ρ := rfl
@[simp] theorem sNo_ap : sNo ρ = .no := rfl
@[simp] theorem sBk_ap : sBk ρ = .bk ρ := rfl
@[simp] theorem sCt_ap : sCt ρ = .ct ρ := rfl
@[simp] theorem sRetN_ap : sRetN ρ = .rt .non ρ := rfl
@[simp] theorem sRet_ap {F : Env → Out D} : sRet F ρ = (F ρ).s fun d ρ1 => .rt d ρ1 := rfl
@[simp] theorem sDrop_ap {F : Env → Out D} : sDrop F ρ = (F ρ).s fun _ ρ1 => .nx ρ1 := rfl
@[simp] theorem sIf_ap {T : Env → Out Bool} {F : Env → SOut} : sIf T F G ρ = (T ρ).s fun k ρ1 => if k = true then F ρ1 else G ρ1 := rfl
@[simp] theorem sAsg_ap {F : Env → Out D} {h : D → Env → Option Env} : sAsg F h ρ = (F ρ).s fun d ρ1 => sOpt (h d ρ1) := rfl
@[simp] theorem sOpt_some : sOpt (some ρ) = .nx ρ := rfl
@[simp] theorem sOpt_none : sOpt none = .no := rfl
@[simp] theorem sRaise_ap {n : String} : sRaise n ρ = .ex ⟨n, []⟩ ρ := rfl
@[simp] theorem gN_ap {B : List Nat} {i : Nat} : gN B i d ρ = if i ∈ B then none else some (ρ.set i (some d)) := rfl
@[simp] theorem gT_tup {n : Nat} {F : List D → Env → Option Env} {ds : List D} : gT n F (.tup ds) ρ = if ds.length = n then F ds ρ else none := by
  unfold gT
  rfl
@[simp] theorem gsNil_ap : gsNil [] ρ = some ρ := rfl
@[simp] theorem gsCons_ap {F : D → Env → Option Env} {Fr : List D → Env → Option Env} {ds : List D} : gsCons F Fr (d :: ds) ρ = (F d ρ).bind (Fr ds) := by
  unfold gsCons
  cases h : F d ρ <;> simp [h]
end
/-! ### expressions -/
section
variable {ρ ρ1 : Env} {F Fa Fb Fc : Env → Out D} {Fs : Env → Out (List D)} {T U : Env → Out Bool} {g : D → D → Res} {u : D → Res} {l : List D → Res} {d : D} {ds : List D} {B : List Nat} {i j : Nat}
@[simp] theorem fC_ap : fC d ρ = .ok d ρ true := rfl
@[simp] theorem fNil_ap : fNil ρ = .ok [] ρ true := rfl
@[simp] theorem fCons_ap : fCons F Fs ρ = (F ρ).bind fun a ρ1 => (Fs ρ1).bind fun as ρ2 => .ok (a :: as) ρ2 true := rfl
@[simp] theorem fOp_ap : fOp g Fa Fb ρ = (Fa ρ).bind fun a ρ1 => (Fb ρ1).bind fun c ρ2 => resE (g a c) ρ2 := rfl
@[simp] theorem fOpO_ap : fOpO g Fa Fb ρ = (Fa ρ).bind fun a ρ1 => (Fb ρ1).bind fun c ρ2 => resO (g a c) ρ2 := rfl
@[simp] theorem fUn_ap : fUn u F ρ = (F ρ).bind fun a ρ1 => resE (u a) ρ1 := rfl
@[simp] theorem fCl_ap : fCl l Fs ρ = (Fs ρ).bind fun a ρ1 => resE (l a) ρ1 := rfl
@[simp] theorem fClO_ap : fClO l Fs ρ = (Fs ρ).bind fun a ρ1 => resO (l a) ρ1 := rfl
@[simp] theorem resE_val : resE (.val d) ρ = .ok d ρ true := rfl
@[simp] theorem resE_new : resE (.new ds) ρ = .ok (.lst false ds) ρ true := rfl
@[simp] theorem resE_no : resE .no ρ = .no := rfl
@[simp] theorem resO_val : resO (.val d) ρ = .ok d ρ true := rfl
@[simp] theorem resO_new : resO (.new ds) ρ = .ok (.lst true ds) ρ true := rfl
@[simp] theorem resO_no : resO .no ρ = .no := rfl
def varO (B : List Nat) (i : Nat) (ρ : Env) : Option (Option D) → Out D
  | some (some d) => if owned d = true then (if i ∈ B then .no else .ok (frz d) (ρ.set i (some (frz d))) false) else .ok d ρ true
  | _ => .no
def movO (B : List Nat) (i : Nat) (ρ : Env) : Option (Option D) → Out D
  | some (some d) => if owned d = true then (if i ∈ B then .no else .ok d (ρ.set i none) false) else .ok d ρ true
  | _ => .no
@[simp] theorem fVar_ap : fVar B i ρ = varO B i ρ ρ[i]? := by
  unfold fVar varO
  split <;> simp_all
@[simp] theorem fMov_ap : fMov B i ρ = movO B i ρ ρ[i]? := by
  unfold fMov movO
  split <;> simp_all
@[simp] theorem varO_some : varO B i ρ (some (some d)) = if owned d = true then (if i ∈ B then .no else .ok (frz d) (ρ.set i (some (frz d))) false) else .ok d ρ true := rfl
@[simp] theorem movO_some : movO B i ρ (some (some d)) = if owned d = true then (if i ∈ B then .no else .ok d (ρ.set i none) false) else .ok d ρ true := rfl
@[simp] theorem fTst_ap : fTst F ρ = (F ρ).bind fun a ρ1 => liftB (blD a) ρ1 := rfl
@[simp] theorem fTru_ap : fTru F ρ = (F ρ).bind fun a ρ1 => liftB (truD a) ρ1 := rfl
@[simp] theorem blD_bl {k : Bool} : blD (.bl k) = some k := rfl
@[simp] theorem truD_bl {k : Bool} : truD (.bl k) = some k := rfl
@[simp] theorem truD_int {k : Int} : truD (.int k) = some (k != 0) := rfl
@[simp] theorem liftB_some {k : Bool} : liftB (some k) ρ = .ok k ρ true := rfl
@[simp] theorem fAnd_ap : fAnd T U ρ = (T ρ).bind fun k ρ1 => if k = true then U ρ1 else .ok false ρ1 true := rfl
@[simp] theorem fOr_ap : fOr T U ρ = (T ρ).bind fun k ρ1 => if k = true then .ok true ρ1 true else U ρ1 := rfl
@[simp] theorem fNot_ap : fNot T ρ = (T ρ).bind fun k ρ1 => .ok (!k) ρ1 true := rfl
def andO (G : Env → Out D) (ρ : Env) : Option Bool → Out D
  | some k => if k = true then G ρ else .ok (.bl false) ρ true
  | none => .no
def orO (G : Env → Out D) (ρ : Env) : Option Bool → Out D
  | some k => if k = true then .ok (.bl true) ρ true else G ρ
  | none => .no
def notO (ρ : Env) : Option Bool → Out D
  | some k => .ok (.bl (!k)) ρ true
  | none => .no
@[simp] theorem fAndV_ap : fAndV Fa Fb ρ = (Fa ρ).bind fun a ρ1 => andO Fb ρ1 (blD a) := by
  unfold fAndV andO
  congr
@[simp] theorem fOrV_ap : fOrV Fa Fb ρ = (Fa ρ).bind fun a ρ1 => orO Fb ρ1 (blD a) := by
  unfold fOrV orO
  congr
@[simp] theorem fNotV_ap : fNotV Fa ρ = (Fa ρ).bind fun a ρ1 => notO ρ1 (blD a) := by
  unfold fNotV notO
  congr
@[simp] theorem andO_some {k : Bool} : andO F ρ (some k) = if k = true then F ρ else .ok (.bl false) ρ true := rfl
@[simp] theorem orO_some {k : Bool} : orO F ρ (some k) = if k = true then .ok (.bl true) ρ true else F ρ := rfl
@[simp] theorem notO_some {k : Bool} : notO ρ (some k) = .ok (.bl (!k)) ρ true := rfl
@[simp] theorem fIf_ap {α : Type} {G G' : Env → Out α} : fIf T G G' ρ = (T ρ).bind fun k ρ1 => if k = true then G ρ1 else G' ρ1 := rfl
@[simp] theorem fYes_ap : fYes ρ = .ok true ρ true := rfl
def frzO : Out D → Out D
  | .ok d ρ q => .ok (frz d) ρ (q && !owned d)
  | .ex c ρ => .ex c ρ
  | .no => .no
@[simp] theorem fFrz_ap : fFrz F ρ = frzO (F ρ) := by
  unfold fFrz frzO
  cases F ρ <;> rfl
@[simp] theorem frzO_ok {q : Bool} : frzO (.ok d ρ q) = .ok (frz d) ρ (q && !owned d) := rfl
@[simp] theorem frzO_ex {c : Exn} : frzO (.ex c ρ) = .ex c ρ := rfl
@[simp] theorem frzO_no : frzO .no = .no := rfl
@[simp] theorem frz_int {k : Int} : frz (.int k) = .int k := rfl
@[simp] theorem frz_bl {k : Bool} : frz (.bl k) = .bl k := rfl
@[simp] theorem frz_non : frz .non = .non := rfl
@[simp] theorem frz_str {x : Str} : frz (.str x) = .str x := rfl
@[simp] theorem frz_tup : frz (.tup ds) = .tup ds := rfl
@[simp] theorem frz_lst {o : Bool} : frz (.lst o ds) = .lst false ds := rfl
@[simp] theorem owned_int {k : Int} : owned (.int k) = false := rfl
@[simp] theorem owned_bl {k : Bool} : owned (.bl k) = false := rfl
@[simp] theorem owned_non : owned .non = false := rfl
@[simp] theorem owned_str {x : Str} : owned (.str x) = false := rfl
@[simp] theorem owned_tup : owned (.tup ds) = false := rfl
@[simp] theorem owned_ro : owned (.ro ds) = false := rfl
@[simp] theorem owned_ref {a : Addr} : owned (.ref a) = false := rfl
@[simp] theorem owned_ty {n : String} : owned (.ty n) = false := rfl
@[simp] theorem owned_lst {o : Bool} : owned (.lst o ds) = o := rfl
end

/-! ### operations -/
section
variable {a b : Int} {d : D} {ds es : List D} {o o' : Bool} {x y : Str} {n : String}
@[simp] theorem addD_int : addD (.int a) (.int b) = .val (.int (a + b)) := rfl
@[simp] theorem addD_tup : addD (.tup ds) (.tup es) = if ds.isEmpty = false ∧ ds.length + es.length ≤ sizeLine then .val (.tup (ds ++ es)) else .no := rfl
@[simp] theorem addD_lst : addD (.lst o ds) (.lst o' es) = if ds.length + es.length ≤ sizeLine then .new (ds ++ es) else .no := rfl
@[simp] theorem addD_str : addD (.str x) (.str y) = if x.length + y.length ≤ sizeLine then .val (.str (x ++ y)) else .no := rfl
@[simp] theorem addI_int : addI (.int a) (.int b) = .val (.int (a + b)) := rfl
@[simp] theorem subD_int : subD (.int a) (.int b) = .val (.int (a - b)) := rfl
@[simp] theorem mulD_int : mulD (.int a) (.int b) = if IntMulOk a b then .val (.int (a * b)) else .no := rfl
@[simp] theorem fdivD_int : fdivD (.int a) (.int b) = if 0 < b ∧ b.natAbs.log2 < 9000 then .val (.int (a / b)) else .no := rfl
@[simp] theorem modD_int : modD (.int a) (.int b) = if 0 < b then .val (.int (a % b)) else .no := rfl
@[simp] theorem powD_int : powD (.int a) (.int b) = if 0 ≤ b ∧ b ≤ 1000000 ∧ a.natAbs < 2 ^ 64 then .val (.int (a ^ b.toNat)) else .no := rfl
@[simp] theorem negD_int : negD (.int a) = .val (.int (-a)) := rfl
@[simp] theorem ltD_int : ltD (.int a) (.int b) = .val (.bl (decide (a < b))) := rfl
@[simp] theorem leD_int : leD (.int a) (.int b) = .val (.bl (decide (a ≤ b))) := rfl
@[simp] theorem gtD_int : gtD (.int a) (.int b) = .val (.bl (decide (b < a))) := rfl
@[simp] theorem geD_int : geD (.int a) (.int b) = .val (.bl (decide (b ≤ a))) := rfl
@[simp] theorem isD_non : isD d .non = .val (.bl (isNonD d)) := by cases d <;> rfl
@[simp] theorem isD_bl {k k' : Bool} : isD (.bl k) (.bl k') = .val (.bl (decide (k = k'))) := rfl
@[simp] theorem isntD_non : isntD d .non = .val (.bl (!isNonD d)) := by cases d <;> rfl
@[simp] theorem isntD_bl {k k' : Bool} : isntD (.bl k) (.bl k') = .val (.bl (!decide (k = k'))) := rfl
@[simp] theorem tupD_ap : tupD ds = if ds.length ≤ 16777216 then .val (.tup ds) else .no := by rw [← sizeLine_eq]; rfl
@[simp] theorem lstD_ap : lstD ds = if ds.length ≤ 16777216 then .new ds else .no := by rw [← sizeLine_eq]; rfl
@[simp] theorem lenD_tup : lenD [.tup ds] = .val (.int (ds.length : Nat)) := rfl
@[simp] theorem lenD_ro : lenD [.ro ds] = .val (.int (ds.length : Nat)) := rfl
@[simp] theorem lenD_lst : lenD [.lst o ds] = .val (.int (ds.length : Nat)) := rfl
@[simp] theorem absD_int : absD [.int a] = .val (.int (if a < 0 then -a else a)) := rfl
@[simp] theorem maxD_int : maxD [.int a, .int b] = .val (.int (if b > a then b else a)) := rfl
@[simp] theorem minD_int : minD [.int a, .int b] = .val (.int (if b < a then b else a)) := rfl
@[simp] theorem intD_int : intD [.int a] = .val (.int a) := rfl
@[simp] theorem intD_bl {k : Bool} : intD [.bl k] = .val (.int (if k then 1 else 0)) := rfl
@[simp] theorem tupleD_lst : tupleD [.lst o ds] = .val (.tup ds) := rfl
@[simp] theorem tupleD_tup : tupleD [.tup ds] = .val (.tup ds) := rfl
@[simp] theorem listD_lst : listD [.lst o ds] = .new ds := rfl
@[simp] theorem listD_tup : listD [.tup ds] = .new ds := rfl
def atR : Option D → Res
  | some d => .val d
  | none => .no
@[simp] theorem atR_some : atR (some d) = .val d := rfl
@[simp] theorem ixD_tup : ixD (.tup ds) (.int a) = atR (atI ds a) := by unfold ixD atR; first | rfl | (dsimp only; cases atI ds a <;> rfl) | (dsimp only; done)
@[simp] theorem ixD_ro : ixD (.ro ds) (.int a) = atR (atI ds a) := by unfold ixD atR; first | rfl | (dsimp only; cases atI ds a <;> rfl) | (dsimp only; done)
@[simp] theorem ixD_lst : ixD (.lst o ds) (.int a) = atR (atI ds a) := by unfold ixD atR; first | rfl | (dsimp only; cases atI ds a <;> rfl) | (dsimp only; done)
theorem at_nat {α : Type} {xs : List α} {j : Nat} : atI xs (j : Int) = xs[j]? := by
  unfold atI ixN
  by_cases h : j < xs.length
  · simp [h]
  · simp [h]
@[simp] theorem at0 {α : Type} {x : α} {xs : List α} : atI (x :: xs) 0 = some x := by rw [show (0 : Int) = ((0 : Nat) : Int) from rfl, at_nat]; rfl
@[simp] theorem at1 {α : Type} {x y : α} {xs : List α} : atI (x :: y :: xs) 1 = some y := by rw [show (1 : Int) = ((1 : Nat) : Int) from rfl, at_nat]; rfl
@[simp] theorem at2 {α : Type} {x y z : α} {xs : List α} : atI (x :: y :: z :: xs) 2 = some z := by rw [show (2 : Int) = ((2 : Nat) : Int) from rfl, at_nat]; rfl
@[simp] theorem at3 {α : Type} {x y z w : α} {xs : List α} : atI (x :: y :: z :: w :: xs) 3 = some w := by rw [show (3 : Int) = ((3 : Nat) : Int) from rfl, at_nat]; rfl
end
end DL
set_option Elab.async false
set_option linter.all false
set_option maxRecDepth 100000
set_option maxHeartbeats 1000000
namespace DL
open PySem PySem.Spec PyProof.Rows L2
/-! ### slots that are owned, calls -/
section
variable {ρ ρ1 : Env} {F : Env → Out D} {Fs : Env → Out (List D)} {d : D} {ds bs as : List D} {B js : List Nat} {i j n nb np : Nat} {o : Bool} {c : Exn} {m : List D → FOut} {G : Env → SOut}
@[simp] theorem allSome_nil : allSome [] = some [] := rfl
@[simp] theorem allSome_cons {r : List (Option D)} : allSome (some d :: r) = (allSome r).map (d :: ·) := rfl
@[simp] theorem runF_ap : runF nb n G ds = toF nb (G (start0 n ds)) := rfl
@[simp] theorem start0_ap : start0 n ds = ds.map some ++ List.replicate (n - ds.length) none := rfl
def endO (d : D) : Option (List D) → FOut
  | some bs => .ok d bs
  | none => .no
def exO (c : Exn) : Option (List D) → FOut
  | some bs => .ex c bs
  | none => .no
@[simp] theorem endO_some : endO d (some bs) = .ok d bs := rfl
@[simp] theorem exO_some : exO c (some bs) = .ex c bs := rfl
@[simp] theorem toF_nx : toF nb (.nx ρ) = endO .non (allSome (ρ.take nb)) := by unfold toF endO; first | rfl | (dsimp only; cases allSome (ρ.take nb) <;> rfl) | (dsimp only; done)
@[simp] theorem toF_rt : toF nb (.rt d ρ) = endO d (allSome (ρ.take nb)) := by unfold toF endO; first | rfl | (dsimp only; cases allSome (ρ.take nb) <;> rfl) | (dsimp only; done)
@[simp] theorem toF_ex : toF nb (.ex c ρ) = exO c (allSome (ρ.take nb)) := by unfold toF exO; first | rfl | (dsimp only; cases allSome (ρ.take nb) <;> rfl) | (dsimp only; done)
@[simp] theorem toF_no : toF nb .no = .no := rfl
def refO (F : Env → Out (List D)) (ρ : Env) : Option (Option D) → Out (List D)
  | some (some _) => F ρ
  | _ => .no
@[simp] theorem fRef_ap : fRef j Fs ρ = refO Fs ρ ρ[j]? := by
  unfold fRef refO
  split <;> simp_all
@[simp] theorem refO_some : refO Fs ρ (some (some d)) = Fs ρ := rfl
def callA (js : List Nat) (m : List D → FOut) (as : List D) (ρ : Env) : Option (List D) → Out D
  | some ds => callO js (m (ds ++ as)) ρ
  | none => .no
@[simp] theorem callA_some : callA js m as ρ (some ds) = callO js (m (ds ++ as)) ρ := rfl
@[simp] theorem fCallN_ap {dds : List D} : fCallN np js dds m Fs ρ = (Fs ρ).bind fun as ρ1 => if js.length + (as ++ dds).length = np then callA js m (as ++ dds) ρ1 (getAll ρ1 js) else .no := by
  unfold fCallN callA
  congr
@[simp] theorem getAll_nil : getAll ρ [] = some [] := rfl
def getO (js : List Nat) (ρ : Env) : Option (Option D) → Option (List D)
  | some (some d) => (getAll ρ js).map (d :: ·)
  | _ => none
@[simp] theorem getAll_cons : getAll ρ (j :: js) = getO js ρ ρ[j]? := by
  conv => lhs; unfold getAll
  unfold getO
  cases ρ[j]? with
  | none => rfl
  | some q =>
    cases q with
    | none => rfl
    | some d => cases getAll ρ js <;> rfl
@[simp] theorem getO_some : getO js ρ (some (some d)) = (getAll ρ js).map (d :: ·) := rfl
@[simp] theorem putAll_nil : putAll ρ [] bs = ρ := rfl
@[simp] theorem putAll_cons : putAll ρ (j :: js) (d :: ds) = putAll (ρ.set j (some d)) js ds := rfl
@[simp] theorem callO_ok : callO js (.ok d bs) ρ = .ok d (putAll ρ js bs) js.isEmpty := rfl
@[simp] theorem callO_ex : callO js (.ex c bs) ρ = .ex c (putAll ρ js bs) := rfl
@[simp] theorem callO_no : callO js .no ρ = .no := rfl
def lstO : Option (Option D) → Option (List D)
  | some (some (.lst _ ds)) => some ds
  | _ => none
@[simp] theorem lstO_some : lstO (some (some (.lst o ds))) = some ds := rfl
def ixA (ρ : Env) (i : D) : Option (List D) → Out D
  | some ds => (match i with
    | .int k => (match atI ds k with
      | some d => .ok d ρ true
      | none => .no)
    | _ => .no)
  | none => .no
def atO (ρ : Env) : Option D → Out D
  | some d => .ok d ρ true
  | none => .no
@[simp] theorem atO_some : atO ρ (some d) = .ok d ρ true := rfl
@[simp] theorem ixA_some {k : Int} : ixA ρ (.int k) (some ds) = atO ρ (atI ds k) := by
  unfold ixA atO
  rfl
theorem ixA_eq {i : D} : (match ρ[j]?, i with
  | some (some (.lst _ ds)), .int k => (match atI ds k with
    | some d => Out.ok d ρ true
    | none => Out.no)
  | _, _ => Out.no) = ixA ρ i (lstO ρ[j]?) := by
  unfold ixA lstO
  cases ρ[j]? with
  | none => rfl
  | some q =>
    cases q with
    | none => rfl
    | some d => cases d <;> cases i <;> rfl
@[simp] theorem fIxL_ap : fIxL j F ρ = if isLst ρ j = true then (F ρ).bind fun i ρ1 => ixA ρ1 i (lstO ρ1[j]?) else .no := by
  unfold fIxL
  congr
  first | done | (funext i ρ1; exact ixA_eq)
def isLO : Option (Option D) → Bool
  | some (some (.lst _ _)) => true
  | _ => false
@[simp] theorem isLst_ap : isLst ρ j = isLO ρ[j]? := by
  unfold isLst isLO
  cases ρ[j]? with
  | none => rfl
  | some q =>
    cases q with
    | none => rfl
    | some d => cases d <;> rfl
@[simp] theorem isLO_some : isLO (some (some (.lst o ds))) = true := rfl
def isOO : Option (Option D) → Bool
  | some (some (.lst true _)) => true
  | _ => false
@[simp] theorem isL_ap : isL ρ j = isOO ρ[j]? := by
  unfold isL isOO
  cases ρ[j]? with
  | none => rfl
  | some q =>
    cases q with
    | none => rfl
    | some d =>
      cases d with
      | lst o ds => cases o <;> rfl
      | _ => rfl
@[simp] theorem isOO_some : isOO (some (some (.lst true ds))) = true := rfl
def ownO : Option (Option D) → Option (List D)
  | some (some (.lst true ds)) => some ds
  | _ => none
@[simp] theorem ownO_some : ownO (some (some (.lst true ds))) = some ds := rfl
def setA (ρ : Env) (j : Nat) (d : D) (i : D) : Option (List D) → SOut
  | some ds => (match i with
    | .int k => (match ixN ds.length k with
      | some m => .nx (ρ.set j (some (.lst true (ds.set m d))))
      | none => .no)
    | _ => .no)
  | none => .no
@[simp] theorem sSetIx_ap {Fe Fi : Env → Out D} : sSetIx j Fe Fi ρ = (Fe ρ).s fun d ρ1 => if isL ρ1 j = true then (Fi ρ1).s fun i ρ2 => setA ρ2 j d i (ownO ρ2[j]?) else .no := by
  unfold sSetIx
  congr
  funext d ρ1
  split
  · congr
    funext i ρ2
    unfold setA ownO
    cases ρ2[j]? with
    | none => rfl
    | some q =>
      cases q with
      | none => rfl
      | some e =>
        cases e with
        | lst o ds => cases o <;> cases i <;> rfl
        | _ => rfl
  · rfl
@[simp] theorem setA_0 {d e : D} : setA ρ j d (.int 0) (some (e :: ds)) = .nx (ρ.set j (some (.lst true (d :: ds)))) := by
  unfold setA ixN
  simp
@[simp] theorem setA_1 {d e e' : D} : setA ρ j d (.int 1) (some (e :: e' :: ds)) = .nx (ρ.set j (some (.lst true (e :: d :: ds)))) := by
  have h : ixN (e :: e' :: ds).length 1 = some 1 := by
    unfold ixN
    rw [if_pos (by decide), if_pos (by simp only [List.length_cons]; omega)]
    rfl
  unfold setA
  dsimp only
  rw [h]
  rfl
def appO (ρ : Env) (j : Nat) (d : D) : Option (List D) → Out D
  | some ds => if ds.length < sizeLine then .ok .non (ρ.set j (some (.lst true (ds ++ [d])))) false else .no
  | none => .no
@[simp] theorem appO_some : appO ρ j d (some ds) = if ds.length < sizeLine then .ok .non (ρ.set j (some (.lst true (ds ++ [d])))) false else .no := rfl
@[simp] theorem fApp_ap : fApp j F ρ = if isL ρ j = true then (F ρ).bind fun d ρ1 => appO ρ1 j d (ownO ρ1[j]?) else .no := by
  unfold fApp
  congr
  funext d ρ1
  unfold appO ownO
  cases ρ1[j]? with
  | none => rfl
  | some q =>
    cases q with
    | none => rfl
    | some e =>
      cases e with
      | lst o ds => cases o <;> rfl
      | _ => rfl
end

/-! ### isinstance, == -/
section
variable {a b : Int} {x y : Str} {d : D} {ds : List D} {o : Bool} {n : String}
@[simp] theorem tyName_int : tyName (.int a) = some "int" := rfl
@[simp] theorem tyName_bl {k : Bool} : tyName (.bl k) = some "bool" := rfl
@[simp] theorem tyName_non : tyName .non = some "NoneType" := rfl
@[simp] theorem tyName_str : tyName (.str x) = some "str" := rfl
@[simp] theorem tyName_tup : tyName (.tup ds) = some "tuple" := rfl
@[simp] theorem tyName_lst : tyName (.lst o ds) = some "list" := rfl
def isiO (n : String) : Option String → Res
  | some m => if tyKnown n = true then .val (.bl (isTy m n)) else .no
  | none => .no
@[simp] theorem isiD_ty : isiD [d, .ty n] = isiO n (tyName d) := by
  unfold isiD isiO
  first | rfl | (dsimp only; cases tyName d <;> rfl) | (dsimp only; done)
@[simp] theorem isiO_some {m : String} : isiO n (some m) = if tyKnown n = true then .val (.bl (isTy m n)) else .no := rfl
def blR : Option Bool → Res
  | some k => .val (.bl k)
  | none => .no
@[simp] theorem blR_some {k : Bool} : blR (some k) = .val (.bl k) := rfl
@[simp] theorem eqD_ap {d e : D} : eqD d e = blR (eqB d e) := by unfold eqD blR; cases eqB d e <;> rfl
@[simp] theorem neD_ap {d e : D} : neD d e = blR ((eqB d e).map (!·)) := by unfold neD blR; cases eqB d e <;> rfl
/-- data that == reads -/
def shp (d : D) : Bool := match toPy d with
  | some p => SeqAt.shaped p
  | none => false
theorem eqB_self {d : D} (h : shp d = true) : eqB d d = some true := by
  unfold shp at h
  unfold eqB
  cases e : toPy d with
  | none => rw [e] at h; cases h
  | some p =>
    rw [e] at h
    dsimp only at h ⊢
    rw [if_pos ⟨h, h⟩, SeqAt.eqv_refl p (SeqAt.canLay_of_shaped h)]
@[simp] theorem eqB_int : eqB (.int a) (.int b) = some (decide (a = b)) := by
  show (if SeqAt.shaped (.int a) = true ∧ SeqAt.shaped (.int b) = true then some (PyData.eqv (.int a) (.int b)) else none) = _
  rw [if_pos ⟨rfl, rfl⟩]
  simp only [PyData.eqv]
  rw [Bool.beq_eq_decide_eq]
@[simp] theorem eqB_str (hx : PyData.strOk x = true) (hy : PyData.strOk y = true) : eqB (.str x) (.str y) = some (x == y) := by
  have e : ∀ z : Str, PyData.strOk z = true → SeqAt.shaped (.str z) = true := fun z h => by
    unfold SeqAt.shaped
    rw [Bool.and_eq_true]
    exact ⟨h, rfl⟩
  show (if SeqAt.shaped (.str x) = true ∧ SeqAt.shaped (.str y) = true then some (PyData.eqv (.str x) (.str y)) else none) = _
  rw [if_pos ⟨e x hx, e y hy⟩]
  simp [PyData.eqv]
end
end DL
set_option Elab.async false
set_option linter.all false
set_option maxRecDepth 100000
set_option maxHeartbeats 1000000
namespace DL
open PySem PySem.Spec PyProof.Rows L2
/-! ### loops -/
section
variable {ρ : Env} {g : D → Env → Option Env} {body : Env → SOut} {F : Env → Out D} {Fs : Env → Out (List D)} {ds : List D} {o : Bool} {a b : Int}
@[simp] theorem sFor_ap : sFor Fs g body ρ = (Fs ρ).s fun ds ρ1 => forD g body ds ρ1 := rfl
@[simp] theorem fAny_ap : fAny F ρ = (F ρ).bind fun a ρ1 => liftL (seqD a) ρ1 := rfl
@[simp] theorem seqD_tup : seqD (.tup ds) = some ds := rfl
@[simp] theorem seqD_lst : seqD (.lst o ds) = some ds := rfl
@[simp] theorem liftL_some : liftL (some ds) ρ = .ok ds ρ true := rfl
@[simp] theorem fRng1_ap : fRng1 Fs ρ = (Fs ρ).bind rng1 := rfl
@[simp] theorem fRng2_ap : fRng2 Fs ρ = (Fs ρ).bind rng2 := rfl
@[simp] theorem rng1_int : rng1 [.int a] ρ = if -(2 ^ 62) ≤ a ∧ a < 2 ^ 62 then .ok (rngD 0 a.toNat) ρ true else .no := rfl
@[simp] theorem rng2_int : rng2 [.int a, .int b] ρ = if -(2 ^ 62) ≤ a ∧ a < 2 ^ 62 ∧ -(2 ^ 62) ≤ b ∧ b < 2 ^ 62 then .ok (rngD a (b - a).toNat) ρ true else .no := rfl
theorem forD_nil : forD g body [] ρ = .nx ρ := rfl
/-- a loop that runs through: P holds of the state ahead of each turn -/
theorem for_nx (P : Nat → Env → Prop) : ∀ (ds : List D) (k : Nat) (ρ : Env), P k ρ →
    (∀ (i : Nat) (d : D) (ρ : Env), ds[i]? = some d → P (k + i) ρ → ∃ ρ1, g d ρ = some ρ1 ∧ ∃ ρ2, (body ρ1 = .nx ρ2 ∨ body ρ1 = .ct ρ2) ∧ P (k + i + 1) ρ2) →
    ∃ ρ', forD g body ds ρ = .nx ρ' ∧ P (k + ds.length) ρ'
  | [], k, ρ, p, _ => ⟨ρ, rfl, p⟩
  | d :: ds, k, ρ, p, h => by
    obtain ⟨ρ1, e1, ρ2, e2, p2⟩ := h 0 d ρ rfl p
    obtain ⟨ρ', e, q⟩ := for_nx P ds (k + 1) ρ2 p2 fun i d ρ hi hp => by
      have e : k + 1 + i = k + (i + 1) := by omega
      rw [e] at hp ⊢
      exact h (i + 1) d ρ hi hp
    refine ⟨ρ', ?_, by rw [show k + (d :: ds).length = k + 1 + ds.length by rw [List.length_cons]; omega]; exact q⟩
    unfold forD
    rw [e1]
    rcases e2 with e2 | e2 <;> (dsimp only; rw [e2]; exact e)
/-- .. where the state's form does not depend on the turn -/
theorem for_all (P : Env → Prop) (ds : List D) (ρ : Env) (p : P ρ) (h : ∀ d ∈ ds, ∀ ρ, P ρ → ∃ ρ1, g d ρ = some ρ1 ∧ ∃ ρ2, (body ρ1 = .nx ρ2 ∨ body ρ1 = .ct ρ2) ∧ P ρ2) : ∃ ρ', forD g body ds ρ = .nx ρ' ∧ P ρ' := by
  obtain ⟨ρ', e, q⟩ := for_nx (g := g) (body := body) (fun _ => P) ds 0 ρ p fun i d ρ hi hp => h d (List.mem_of_getElem? hi) ρ hp
  exact ⟨ρ', e, q⟩
end
/-! ### comprehensions -/
section
variable {ρ : Env} {g : D → Env → Option Env} {T : Env → Out Bool} {Fe : Env → Out D} {Fs : Env → Out (List D)} {vs : List Nat}
@[simp] theorem fLc_ap : fLc vs Fs g T Fe ρ = (Fs ρ).bind fun ds ρ1 => lcD vs g T Fe ds [] (wipeE ρ1 vs) := rfl
@[simp] theorem wipeE_nil : wipeE ρ [] = ρ := rfl
@[simp] theorem wipeE_cons {v : Nat} : wipeE ρ (v :: vs) = (wipeE ρ vs).set v none := rfl
/-- each item gives its own element, and the state is as before -/
theorem lc_map {ρ : Env} (f : D → D) : ∀ (ds acc : List D), acc.length + ds.length ≤ sizeLine →
    (∀ d ∈ ds, ∃ ρ1 ρ2 ρ3 q1 q2, g d ρ = some ρ1 ∧ T ρ1 = .ok true ρ2 q1 ∧ Fe ρ2 = .ok (f d) ρ3 q2 ∧ wipeE ρ3 vs = ρ) → lcD vs g T Fe ds acc ρ = .ok (.lst true (acc ++ ds.map f)) ρ false
  | [], acc, _, _ => by simp [lcD]
  | d :: ds, acc, hl, h => by
    obtain ⟨ρ1, ρ2, ρ3, q1, q2, e1, e2, e3, e4⟩ := h d (List.mem_cons_self ..)
    rw [List.length_cons] at hl
    have r := lc_map f ds (acc ++ [f d]) (by rw [List.length_append, List.length_singleton]; omega) fun e he => h e (List.mem_cons_of_mem _ he)
    unfold lcD
    rw [e1]
    dsimp only
    rw [e2]
    dsimp only
    rw [if_pos rfl, e3]
    dsimp only
    rw [if_pos (by omega), e4, r, List.append_assoc]
    rfl
/-- .. with a test -/
theorem lc_filter {ρ : Env} (p : D → Bool) (f : D → D) : ∀ (ds acc : List D), acc.length + ds.length ≤ sizeLine →
    (∀ d ∈ ds, ∃ ρ1 ρ2 q1, g d ρ = some ρ1 ∧ T ρ1 = .ok (p d) ρ2 q1 ∧ (p d = true → ∃ ρ3 q2, Fe ρ2 = .ok (f d) ρ3 q2 ∧ wipeE ρ3 vs = ρ) ∧ (p d = false → wipeE ρ2 vs = ρ)) → lcD vs g T Fe ds acc ρ = .ok (.lst true (acc ++ (ds.filter p).map f)) ρ false
  | [], acc, _, _ => by simp [lcD]
  | d :: ds, acc, hl, h => by
    obtain ⟨ρ1, ρ2, q1, e1, e2, e3, e4⟩ := h d (List.mem_cons_self ..)
    rw [List.length_cons] at hl
    have h' : ∀ e ∈ ds, _ := fun e he => h e (List.mem_cons_of_mem _ he)
    unfold lcD
    rw [e1]
    dsimp only
    rw [e2]
    dsimp only
    cases c : p d with
    | true =>
      obtain ⟨ρ3, q2, e5, e6⟩ := e3 c
      rw [if_pos rfl, e5]
      dsimp only
      rw [if_pos (by omega), e6, lc_filter p f ds (acc ++ [f d]) (by rw [List.length_append, List.length_singleton]; omega) h', List.append_assoc]
      simp [List.filter, c]
    | false =>
      rw [if_neg (by decide), e4 c, lc_filter p f ds acc (by omega) h']
      simp [List.filter, c]
@[simp] theorem unBls_map {α : Type} (f : α → Bool) : ∀ l : List α, unBls (l.map fun x => D.bl (f x)) = some (l.map f)
  | [] => rfl
  | x :: l => by
    show (unBls (l.map fun x => D.bl (f x))).map (f x :: ·) = _
    rw [unBls_map f l]
    rfl
@[simp] theorem unInts_map {α : Type} (f : α → Int) : ∀ l : List α, unInts (l.map fun x => D.int (f x)) = some (l.map f)
  | [] => rfl
  | x :: l => by
    show (unInts (l.map fun x => D.int (f x))).map (f x :: ·) = _
    rw [unInts_map f l]
    rfl
def allR : Option (List Bool) → Res
  | some bs => .val (.bl (bs.all id))
  | none => .no
def sumR : Option (List Int) → Res
  | some ns => .val (.int ns.sum)
  | none => .no
@[simp] theorem allD_lst {o : Bool} {ds : List D} : allD [.lst o ds] = allR (unBls ds) := by unfold allD allR; first | rfl | (dsimp only; cases unBls ds <;> rfl) | (dsimp only; done)
@[simp] theorem allR_some {bs : List Bool} : allR (some bs) = .val (.bl (bs.all id)) := rfl
@[simp] theorem sumD_lst {o : Bool} {ds : List D} : sumD [.lst o ds] = sumR (unInts ds) := by unfold sumD sumR; first | rfl | (dsimp only; cases unInts ds <;> rfl) | (dsimp only; done)
@[simp] theorem sumR_some {bs : List Int} : sumR (some bs) = .val (.int bs.sum) := rfl
end
end DL
namespace DL
open PySem PySem.Spec PyProof.Rows L2
/-! ### try, slices -/
section
variable {ρ : Env} {Fb : Env → SOut} {hds : List Hd} {c : Exn} {d : D} {h : Hd}
def tryO (hds : List Hd) : SOut → SOut
  | .ex c ρ1 => hdsD hds c ρ1
  | o => o
@[simp] theorem sTry_ap : sTry Fb hds ρ = tryO hds (Fb ρ) := by
  unfold sTry tryO
  cases Fb ρ <;> rfl
@[simp] theorem tryO_ex : tryO hds (.ex c ρ) = hdsD hds c ρ := rfl
@[simp] theorem tryO_nx : tryO hds (.nx ρ) = .nx ρ := rfl
@[simp] theorem tryO_rt : tryO hds (.rt d ρ) = .rt d ρ := rfl
@[simp] theorem hdsD_nil : hdsD [] c ρ = .ex c ρ := rfl
@[simp] theorem hdsD_cons : hdsD (h :: hds) c ρ = if c.cls ∈ h.yes then noEx (h.F ρ) else if c.cls ∈ h.no then hdsD hds c ρ else .no := rfl
@[simp] theorem noEx_rt : noEx (.rt d ρ) = .rt d ρ := rfl
@[simp] theorem noEx_nx : noEx (.nx ρ) = .nx ρ := rfl
end
section
variable {ρ : Env} {F : Env → Out D} {g : D → Option Int → Option Int → Res} {L U : Opt} {k : Res → Env → Out D} {a : Int} {ds : List D} {lo hi : Option Int} {o : Bool}
@[simp] theorem fNoP_ap : fNoP ρ = .ok none ρ true := rfl
def partO (a : D) (ρ : Env) : Out (Option Int) := match a with
  | .int i => .ok (some i) ρ true
  | _ => .no
@[simp] theorem fPart_ap : fPart F ρ = (F ρ).bind partO := rfl
@[simp] theorem partO_int : partO (.int a) ρ = .ok (some a) ρ true := rfl
@[simp] theorem fSl_ap : fSl g F L U k ρ = (F ρ).bind fun a ρ1 => (L ρ1).bind fun lo ρ2 => (U ρ2).bind fun hi ρ3 => k (g a lo hi) ρ3 := rfl
@[simp] theorem slD_tup : slD (.tup ds) lo hi = if HT.sIx ds.length 0 lo = 0 ∧ HT.sIx ds.length ds.length hi = ds.length then .no else .val (.tup (cutD ds lo hi)) := rfl
@[simp] theorem slD_lst : slD (.lst o ds) lo hi = .new (cutD ds lo hi) := rfl
end
end DL
namespace DL
open PySem PySem.Spec PyProof.Rows L2
/-- range(max(1, len(script))) -/
theorem rng_max {ds : List D} {r : Env} (h : ds.length ≤ 63) :
    fRng1 (fCons (fCl maxD (fCons (fC (.int 1)) (fCons (fCl lenD (fCons (fVar [] 0) fNil)) fNil))) fNil) (some (.ro ds) :: r) = .ok (rngD 0 (max 1 ds.length)) (some (.ro ds) :: r) true := by
  have c : (if (1 : Int) < (ds.length : Int) then (ds.length : Int) else 1) = ((max 1 ds.length : Nat) : Int) := by split <;> omega
  simp
  rw [c, if_pos (by omega)]
  simp
end DL
set_option Elab.async false
set_option linter.all false
set_option maxRecDepth 100000
set_option maxHeartbeats 1000000
namespace DL
open PySem PySem.Spec PyProof.Rows L2
section
variable {ρ : Env} {a b : Int} {o : Bool} {ds : List D} {x : Str} {k : Res → Env → Out D} {F : Env → Out D}
@[simp] theorem mulL_int : mulL (.int a) (.int b) = if IntMulOk a b then .val (.int (a * b)) else .no := rfl
@[simp] theorem mulL_lst : mulL (.lst o ds) (.int b) = if 0 ≤ b ∧ b ≤ 4096 ∧ ds.length ≤ 4096 then .new (repD b.toNat ds) else .no := rfl
@[simp] theorem reprD_bl {k : Bool} : reprD [.bl k] = .val (.str (if k = true then "True" else "False")) := rfl
@[simp] theorem reprD_int : reprD [.int a] = if a.natAbs.log2 < 1920 then .val (.str (toString a)) else .no := rfl
@[simp] theorem reprD_non : reprD [.non] = .val (.str "None") := rfl
@[simp] theorem fRev_ap : fRev k F ρ = (F ρ).bind fun a ρ1 => k (revD a) ρ1 := rfl
@[simp] theorem revD_lst : revD (.lst o ds) = .new ds.reverse := rfl
@[simp] theorem sPar_ap {B : List Nat} {i j : Nat} {Fs : Env → Out (List D)} {c d : D} {q : Bool} {ρ1 : Env} (h : Fs ρ = .ok [c, d] ρ1 q) : sPar B i j Fs ρ = if i ∈ B ∨ j ∈ B then .no else .nx ((ρ1.set i (some c)).set j (some d)) := by
  unfold sPar
  rw [h]
  rfl
end
end DL
set_option Elab.async false
set_option linter.all false
set_option maxRecDepth 100000
set_option maxHeartbeats 4000000
namespace Lw
open PySem PySem.Spec PyProof.Rows L2 DL
/-! ### the text -/
def top (i : Nat) : Stmt := PySem.Challenge.pw_heightsums_k87_conjugators_found.main.body.getD i (.Pass ⟨0, 0, 0, 0⟩)
abbrev s_is_integer : Stmt := top 4
theorem sc_is_integer : FnScope ["value"] ["value"] (defScope s_is_integer) := ⟨rfl, rfl, rfl, by decide +kernel, rfl, by decide +kernel, by decide +kernel⟩
abbrev s_is_state : Stmt := top 6
theorem sc_is_state : FnScope ["value", "item"] ["value"] (defScope s_is_state) := ⟨rfl, rfl, rfl, by decide +kernel, rfl, by decide +kernel, by decide +kernel⟩
abbrev s_is_displacement : Stmt := top 8
theorem sc_is_displacement : FnScope ["value"] ["value"] (defScope s_is_displacement) := ⟨rfl, rfl, rfl, by decide +kernel, rfl, by decide +kernel, by decide +kernel⟩
abbrev s_check_displacement : Stmt := top 9
theorem sc_check_displacement : FnScope ["value"] ["value"] (defScope s_check_displacement) := ⟨rfl, rfl, rfl, by decide +kernel, rfl, by decide +kernel, by decide +kernel⟩
abbrev s_apply_to : Stmt := top 10
theorem sc_apply_to : FnScope ["start", "displacement", "total"] ["start", "displacement"] (defScope s_apply_to) := ⟨rfl, rfl, rfl, by decide +kernel, rfl, by decide +kernel, by decide +kernel⟩
abbrev s_inverse : Stmt := top 11
theorem sc_inverse : FnScope ["displacement", "x", "h", "s"] ["displacement"] (defScope s_inverse) := ⟨rfl, rfl, rfl, by decide +kernel, rfl, by decide +kernel, by decide +kernel⟩
abbrev s_euclid : Stmt := top 13
theorem sc_euclid : FnScope ["first", "second", "left", "right", "quotient", "rest", "one", "other"] ["first", "second"] (defScope s_euclid) := ⟨rfl, rfl, rfl, by decide +kernel, rfl, by decide +kernel, by decide +kernel⟩
abbrev s_conjugator : Stmt := top 14
theorem sc_conjugator : FnScope ["first", "second", "change", "divisor", "p", "q", "quotient", "rest"] ["first", "second"] (defScope s_conjugator) := ⟨rfl, rfl, rfl, by decide +kernel, rfl, by decide +kernel, by decide +kernel⟩
abbrev s_is_conjugator : Stmt := top 15
theorem sc_is_conjugator : FnScope ["first", "second", "value"] ["first", "second", "value"] (defScope s_is_conjugator) := ⟨rfl, rfl, rfl, by decide +kernel, rfl, by decide +kernel, by decide +kernel⟩
abbrev s__law_pool : Stmt := top 17
theorem sc__law_pool : FnScope ["_law_script", "_law_k", "_law_cell", "_law_seed"] ["_law_script", "_law_k"] (defScope s__law_pool) := ⟨rfl, rfl, rfl, by decide +kernel, rfl, by decide +kernel, by decide +kernel⟩
abbrev s__law_take : Stmt := top 18
theorem sc__law_take : FnScope ["_law_pool_here", "_law_bound", "_law_digit"] ["_law_pool_here", "_law_bound"] (defScope s__law_take) := ⟨rfl, rfl, rfl, by decide +kernel, rfl, by decide +kernel, by decide +kernel⟩
abbrev s__law_integer : Stmt := top 19
theorem sc__law_integer : FnScope ["_law_pool_here", "_law_way"] ["_law_pool_here"] (defScope s__law_integer) := ⟨rfl, rfl, rfl, by decide +kernel, rfl, by decide +kernel, by decide +kernel⟩
abbrev s__law_common : Stmt := top 20
theorem sc__law_common : FnScope ["_law_one", "_law_other"] ["_law_one", "_law_other"] (defScope s__law_common) := ⟨rfl, rfl, rfl, by decide +kernel, rfl, by decide +kernel, by decide +kernel⟩
abbrev s__law_joined : Stmt := top 21
theorem sc__law_joined : FnScope ["_law_one", "_law_later"] ["_law_one", "_law_later"] (defScope s__law_joined) := ⟨rfl, rfl, rfl, by decide +kernel, rfl, by decide +kernel, by decide +kernel⟩
abbrev s__law_back : Stmt := top 22
theorem sc__law_back : FnScope ["_law_one"] ["_law_one"] (defScope s__law_back) := ⟨rfl, rfl, rfl, by decide +kernel, rfl, by decide +kernel, by decide +kernel⟩
abbrev s__law_refused : Stmt := top 23
theorem sc__law_refused : FnScope ["_law_first", "_law_second"] ["_law_first", "_law_second"] (defScope s__law_refused) := ⟨rfl, rfl, rfl, by decide +kernel, rfl, by decide +kernel, by decide +kernel⟩
abbrev s__law_right : Stmt := top 24
theorem sc__law_right : FnScope ["_law_first", "_law_second", "_law_found", "_law_common_here", "_law_change", "_law_is_due", "_law_item"] ["_law_first", "_law_second"] (defScope s__law_right) := ⟨rfl, rfl, rfl, by decide +kernel, rfl, by decide +kernel, by decide +kernel⟩
abbrev s_law : Stmt := top 25
theorem sc_law : FnScope ["_law_script", "_law_k", "_law_pool_here", "_law_factor", "_law_x", "_law_h", "_law_first", "_law_turn", "_law_change", "_law_second", "_law_bad"] ["_law_script"] (defScope s_law) := ⟨rfl, rfl, rfl, by decide +kernel, rfl, by decide +kernel, by decide +kernel⟩
/-! ### what each def computes -/
def b_is_integer : DL.Env → SOut :=
 sRet (fAndV (fCl isiD (fCons (fVar [] 0) (fCons (fC (.ty "int")) (fNil)))) (fNotV (fCl isiD (fCons (fVar [] 0) (fCons (fC (.ty "bool")) (fNil))))))
def m_is_integer : List D → FOut := runF 0 1 b_is_integer
def e1_is_state : DL.Env → Out D :=
 fFrz (fCallN 1 [] [] m_is_integer (fCons (fVar [] 1) (fNil)))
def b_is_state : DL.Env → SOut :=
 sRet (fAndV (fCl isiD (fCons (fVar [] 0) (fCons (fC (.ty "tuple")) (fNil)))) (fAndV (fOp eqD (fCl lenD (fCons (fVar [] 0) (fNil))) (fC (.int 3))) (fCl allD (fCons (fFrz (fLc [1] (fAny (fVar [] 0)) (gN [] 1) (fYes) (e1_is_state))) (fNil)))))
def m_is_state : List D → FOut := runF 0 2 b_is_state
def b_is_displacement : DL.Env → SOut :=
 sRet (fCallN 1 [] [] m_is_state (fCons (fVar [] 0) (fNil)))
def m_is_displacement : List D → FOut := runF 0 1 b_is_displacement
def b_check_displacement : DL.Env → SOut :=
 sIf (fNot (fTru (fFrz (fCallN 1 [] [] m_is_displacement (fCons (fVar [] 0) (fNil)))))) (sRaise "InvalidDisplacement") (sNil)
def m_check_displacement : List D → FOut := runF 0 1 b_check_displacement
def b_apply_to : DL.Env → SOut :=
 sSeq (sAsg (fOpO addD (fOp addD (fOp ixD (fVar [] 0) (fC (.int 2))) (fOp ixD (fVar [] 1) (fC (.int 2)))) (fOp mulD (fOp ixD (fVar [] 0) (fC (.int 1))) (fOp ixD (fVar [] 1) (fC (.int 0))))) (gN [] 2))
 (sRet (fCl tupD (fCons (fOp addD (fOp ixD (fVar [] 0) (fC (.int 0))) (fOp ixD (fVar [] 1) (fC (.int 0)))) (fCons (fOp addD (fOp ixD (fVar [] 0) (fC (.int 1))) (fOp ixD (fVar [] 1) (fC (.int 1)))) (fCons (fVar [] 2) (fNil))))))
def m_apply_to : List D → FOut := runF 0 3 b_apply_to
def b_inverse : DL.Env → SOut :=
 sSeq (sDrop (fCallN 1 [] [] m_check_displacement (fCons (fVar [] 0) (fNil))))
 (sSeq (sAsg (fVar [] 0) (gT 3 (gsCons (gN [] 1) (gsCons (gN [] 2) (gsCons (gN [] 3) (gsNil))))))
 (sRet (fCl tupD (fCons (fUn negD (fVar [] 1)) (fCons (fUn negD (fVar [] 2)) (fCons (fOp subD (fOp mulD (fVar [] 1) (fVar [] 2)) (fVar [] 3)) (fNil)))))))
def m_inverse : List D → FOut := runF 0 4 b_inverse
def e1_euclid : DL.Env → Out D :=
 fOp subD (fVar [] 6) (fOp mulD (fVar [] 4) (fVar [] 7))
def t1_euclid : DL.Env → Out Bool :=
 fTst (fOp neD (fOp ixD (fVar [] 3) (fC (.int 0))) (fC (.int 0)))
def l1_euclid : DL.Env → SOut :=
 sSeq (sAsg (fOp fdivD (fOp ixD (fVar [] 2) (fC (.int 0))) (fOp ixD (fVar [] 3) (fC (.int 0)))) (gN [] 4))
 (sSeq (sAsg (fCl tupleD (fCons (fFrz (fLc [6, 7] (fZip (fCons (fVar [] 2) (fCons (fVar [] 3) (fNil)))) (gT 2 (gsCons (gN [] 6) (gsCons (gN [] 7) (gsNil)))) (fYes) (e1_euclid))) (fNil))) (gN [] 5))
 (sPar [] 2 3 (fCons (fVar [] 3) (fCons (fVar [] 5) (fNil)))))
def b_euclid : DL.Env → SOut :=
 sSeq (sAsg (fCl tupD (fCons (fCl absD (fCons (fVar [] 0) (fNil))) (fCons (fIf (fTst (fOp geD (fVar [] 0) (fC (.int 0)))) (fC (.int 1)) (fUn negD (fC (.int 1)))) (fCons (fC (.int 0)) (fNil))))) (gN [] 2))
 (sSeq (sAsg (fCl tupD (fCons (fCl absD (fCons (fVar [] 1) (fNil))) (fCons (fC (.int 0)) (fCons (fIf (fTst (fOp geD (fVar [] 1) (fC (.int 0)))) (fC (.int 1)) (fUn negD (fC (.int 1)))) (fNil))))) (gN [] 3))
 (sSeq (whileD (t1_euclid) (l1_euclid) 1000)
 (sRet (fMov [] 2))))
def m_euclid : List D → FOut := runF 0 8 b_euclid
def b_conjugator : DL.Env → SOut :=
 sSeq (sDrop (fCallN 1 [] [] m_check_displacement (fCons (fVar [] 0) (fNil))))
 (sSeq (sDrop (fCallN 1 [] [] m_check_displacement (fCons (fVar [] 1) (fNil))))
 (sSeq (sIf (fTst (fOp neD (fSl slD (fVar [] 0) (fNoP) (fPart (fC (.int 2))) resE) (fSl slD (fVar [] 1) (fNoP) (fPart (fC (.int 2))) resE))) (sRet (fC .non)) (sNil))
 (sSeq (sAsg (fOp subD (fOp ixD (fVar [] 1) (fC (.int 2))) (fOp ixD (fVar [] 0) (fC (.int 2)))) (gN [] 2))
 (sSeq (sAsg (fCallN 2 [] [] m_euclid (fCons (fOp ixD (fVar [] 0) (fC (.int 0))) (fCons (fOp ixD (fVar [] 0) (fC (.int 1))) (fNil)))) (gT 3 (gsCons (gN [] 3) (gsCons (gN [] 4) (gsCons (gN [] 5) (gsNil))))))
 (sSeq (sIf (fTst (fOp eqD (fVar [] 3) (fC (.int 0)))) (sRet (fIf (fTst (fOp eqD (fVar [] 2) (fC (.int 0)))) (fCl tupD (fCons (fC (.int 0)) (fCons (fC (.int 0)) (fCons (fC (.int 0)) (fNil))))) (fC .non))) (sNil))
 (sSeq (sAsg (fCl divmodW (fCons (fVar [] 2) (fCons (fVar [] 3) (fNil)))) (gT 2 (gsCons (gN [] 6) (gsCons (gN [] 7) (gsNil)))))
 (sRet (fIf (fTst (fOp neD (fVar [] 7) (fC (.int 0)))) (fC .non) (fCl tupD (fCons (fOp mulD (fUn negD (fVar [] 5)) (fVar [] 6)) (fCons (fOp mulD (fVar [] 4) (fVar [] 6)) (fCons (fC (.int 0)) (fNil)))))))))))))
def m_conjugator : List D → FOut := runF 0 8 b_conjugator
def b_is_conjugator : DL.Env → SOut :=
 sSeq (sDrop (fCallN 1 [] [] m_check_displacement (fCons (fVar [] 0) (fNil))))
 (sSeq (sDrop (fCallN 1 [] [] m_check_displacement (fCons (fVar [] 1) (fNil))))
 (sRet (fAndV (fFrz (fCallN 1 [] [] m_is_displacement (fCons (fVar [] 2) (fNil)))) (fOp eqD (fFrz (fCallN 2 [] [] m_apply_to (fCons (fFrz (fCallN 2 [] [] m_apply_to (fCons (fVar [] 2) (fCons (fVar [] 0) (fNil))))) (fCons (fFrz (fCallN 1 [] [] m_inverse (fCons (fVar [] 2) (fNil)))) (fNil))))) (fVar [] 1)))))
def m_is_conjugator : List D → FOut := runF 0 3 b_is_conjugator
def b__law_pool : DL.Env → SOut :=
 sSeq (sAsg (fC (.int 0)) (gN [] 2))
 (sSeq (sIf (fTst (fOp neD (fVar [] 0) (fCl lstD (fNil)))) (sAsg (fOp ixD (fVar [] 0) (fOp modD (fVar [] 1) (fCl lenD (fCons (fVar [] 0) (fNil))))) (gN [] 2)) (sNil))
 (sSeq (sIf (fTst (fOp geD (fVar [] 1) (fCl lenD (fCons (fVar [] 0) (fNil))))) (sAsg (fOp modD (fVar [] 2) (fC (.int 1000003))) (gN [] 2)) (sNil))
 (sSeq (sAsg (fOp modD (fOp mulD (fOp addD (fOp addD (fOp modD (fVar [] 2) (fC (.int 2147483629))) (fOp mulD (fC (.int 104729)) (fVar [] 1))) (fC (.int 11))) (fC (.int 48271))) (fC (.int 2147483647))) (gN [] 3))
 (sRet (fClO lstD (fCons (fOp mulD (fVar [] 2) (fCl intD (fCons (fOp geD (fVar [] 2) (fOp powD (fC (.int 10)) (fC (.int 18)))) (fNil)))) (fCons (fVar [] 3) (fNil))))))))
def m__law_pool : List D → FOut := runF 0 4 b__law_pool
def b__law_take : DL.Env → SOut :=
 sSeq (sIf (fTst (fOp gtD (fIxL 0 (fC (.int 0))) (fC (.int 0)))) (sSeq (sAsg (fOp modD (fIxL 0 (fC (.int 0))) (fVar [0] 1)) (gN [0] 2))
 (sSeq (sSetIx 0 (fOp fdivD (fIxL 0 (fC (.int 0))) (fVar [0] 1)) (fC (.int 0)))
 (sRet (fMov [0] 2)))) (sNil))
 (sSeq (sSetIx 0 (fOp modD (fOp addD (fOp mulD (fIxL 0 (fC (.int 1))) (fC (.int 48271))) (fC (.int 11))) (fC (.int 2147483647))) (fC (.int 1)))
 (sRet (fOp modD (fOp fdivD (fOp modD (fOp mulD (fIxL 0 (fC (.int 1))) (fIxL 0 (fC (.int 1)))) (fC (.int 2147483629))) (fC (.int 64))) (fVar [0] 1))))
def m__law_take : List D → FOut := runF 1 3 b__law_take
def b__law_integer : DL.Env → SOut :=
 sSeq (sAsg (fCallN 2 [0] [] m__law_take (fRef 0 (fCons (fC (.int 4)) (fNil)))) (gN [0] 1))
 (sSeq (sIf (fTst (fOp ltD (fVar [0] 1) (fC (.int 2)))) (sRet (fOp subD (fFrz (fCallN 2 [0] [] m__law_take (fRef 0 (fCons (fC (.int 13)) (fNil))))) (fC (.int 6)))) (sNil))
 (sSeq (sIf (fTst (fOp eqD (fVar [0] 1) (fC (.int 2)))) (sRet (fOp subD (fFrz (fCallN 2 [0] [] m__law_take (fRef 0 (fCons (fC (.int 2001)) (fNil))))) (fC (.int 1000)))) (sNil))
 (sRet (fOpO mulD (fOp addD (fOp mulD (fFrz (fCallN 2 [0] [] m__law_take (fRef 0 (fCons (fOp powD (fC (.int 10)) (fC (.int 6))) (fNil))))) (fOp powD (fC (.int 10)) (fC (.int 9)))) (fFrz (fCallN 2 [0] [] m__law_take (fRef 0 (fCons (fOp powD (fC (.int 10)) (fC (.int 9))) (fNil)))))) (fOp ixD (fCl lstD (fCons (fC (.int 1)) (fCons (fUn negD (fC (.int 1))) (fNil)))) (fFrz (fCallN 2 [0] [] m__law_take (fRef 0 (fCons (fC (.int 2)) (fNil))))))))))
def m__law_integer : List D → FOut := runF 1 2 b__law_integer
def t1__law_common : DL.Env → Out Bool :=
 fTst (fOp neD (fVar [] 1) (fC (.int 0)))
def l1__law_common : DL.Env → SOut :=
 sPar [] 0 1 (fCons (fVar [] 1) (fCons (fOp modD (fVar [] 0) (fVar [] 1)) (fNil)))
def b__law_common : DL.Env → SOut :=
 sSeq (sPar [] 0 1 (fCons (fCl absD (fCons (fVar [] 0) (fNil))) (fCons (fCl absD (fCons (fVar [] 1) (fNil))) (fNil))))
 (sSeq (whileD (t1__law_common) (l1__law_common) 1000)
 (sRet (fMov [] 0)))
def m__law_common : List D → FOut := runF 0 2 b__law_common
def b__law_joined : DL.Env → SOut :=
 sRet (fCl tupD (fCons (fOp addD (fOp ixD (fVar [] 0) (fC (.int 0))) (fOp ixD (fVar [] 1) (fC (.int 0)))) (fCons (fOp addD (fOp ixD (fVar [] 0) (fC (.int 1))) (fOp ixD (fVar [] 1) (fC (.int 1)))) (fCons (fOp addD (fOp addD (fOp ixD (fVar [] 0) (fC (.int 2))) (fOp ixD (fVar [] 1) (fC (.int 2)))) (fOp mulD (fOp ixD (fVar [] 0) (fC (.int 1))) (fOp ixD (fVar [] 1) (fC (.int 0))))) (fNil)))))
def m__law_joined : List D → FOut := runF 0 2 b__law_joined
def b__law_back : DL.Env → SOut :=
 sRet (fCl tupD (fCons (fOp subD (fC (.int 0)) (fOp ixD (fVar [] 0) (fC (.int 0)))) (fCons (fOp subD (fC (.int 0)) (fOp ixD (fVar [] 0) (fC (.int 1)))) (fCons (fOp subD (fOp mulD (fOp ixD (fVar [] 0) (fC (.int 0))) (fOp ixD (fVar [] 0) (fC (.int 1)))) (fOp ixD (fVar [] 0) (fC (.int 2)))) (fNil)))))
def m__law_back : List D → FOut := runF 0 1 b__law_back
def b__law_refused : DL.Env → SOut :=
 sSeq (sTry (sDrop (fCallN 2 [] [] m_conjugator (fCons (fVar [] 0) (fCons (fVar [] 1) (fNil))))) [⟨["InvalidDisplacement"], [], sRet (fC (.bl true))⟩])
 (sRet (fC (.bl false)))
def m__law_refused : List D → FOut := runF 0 2 b__law_refused
def e1__law_right : DL.Env → Out D :=
 fVar [] 6
def t1__law_right : DL.Env → Out Bool :=
 fOr (fNot (fTru (fCl isiD (fCons (fVar [] 6) (fCons (fC (.ty "int")) (fNil)))))) (fTru (fCl isiD (fCons (fVar [] 6) (fCons (fC (.ty "bool")) (fNil)))))
def b__law_right : DL.Env → SOut :=
 sSeq (sAsg (fCallN 2 [] [] m_conjugator (fCons (fVar [] 0) (fCons (fVar [] 1) (fNil)))) (gN [] 2))
 (sSeq (sAsg (fCallN 2 [] [] m__law_common (fCons (fOp ixD (fVar [] 0) (fC (.int 0))) (fCons (fOp ixD (fVar [] 0) (fC (.int 1))) (fNil)))) (gN [] 3))
 (sSeq (sAsg (fOp subD (fOp ixD (fVar [] 1) (fC (.int 2))) (fOp ixD (fVar [] 0) (fC (.int 2)))) (gN [] 4))
 (sSeq (sAsg (fAndV (fOp eqD (fSl slD (fVar [] 0) (fNoP) (fPart (fC (.int 2))) resE) (fSl slD (fVar [] 1) (fNoP) (fPart (fC (.int 2))) resE)) (fIf (fTst (fOp eqD (fVar [] 3) (fC (.int 0)))) (fOp eqD (fVar [] 4) (fC (.int 0))) (fOp eqD (fOp modD (fVar [] 4) (fVar [] 3)) (fC (.int 0))))) (gN [] 5))
 (sSeq (sIf (fNot (fTru (fVar [] 5))) (sRet (fOp isD (fVar [] 2) (fC .non))) (sNil))
 (sSeq (sIf (fOr (fNot (fTru (fCl isiD (fCons (fVar [] 2) (fCons (fC (.ty "tuple")) (fNil)))))) (fOr (fTst (fOp neD (fCl lenD (fCons (fVar [] 2) (fNil))) (fC (.int 3)))) (fTst (fOp neD (fOp ixD (fVar [] 2) (fC (.int 2))) (fC (.int 0)))))) (sRet (fC (.bl false))) (sNil))
 (sSeq (sIf (fTst (fOp neD (fFrz (fLc [6] (fAny (fVar [] 2)) (gN [] 6) (t1__law_right) (e1__law_right))) (fCl lstD (fNil)))) (sRet (fC (.bl false))) (sNil))
 (sSeq (sIf (fTst (fOp neD (fFrz (fCallN 2 [] [] m__law_joined (fCons (fFrz (fCallN 2 [] [] m__law_joined (fCons (fVar [] 2) (fCons (fVar [] 0) (fNil))))) (fCons (fFrz (fCallN 1 [] [] m__law_back (fCons (fVar [] 2) (fNil)))) (fNil))))) (fVar [] 1))) (sRet (fC (.bl false))) (sNil))
 (sRet (fOp isD (fFrz (fCallN 3 [] [] m_is_conjugator (fCons (fVar [] 0) (fCons (fVar [] 1) (fCons (fVar [] 2) (fNil)))))) (fC (.bl true)))))))))))
def m__law_right : List D → FOut := runF 0 7 b__law_right
def l1_law : DL.Env → SOut :=
 sSeq (sAsg (fOp ixD (fCl lstD (fCons (fOp mulD (fVar [] 3) (fFrz (fCallN 1 [2] [] m__law_integer (fRef 2 (fNil))))) (fCons (fFrz (fCallN 1 [2] [] m__law_integer (fRef 2 (fNil)))) (fCons (fOp subD (fFrz (fCallN 2 [2] [] m__law_take (fRef 2 (fCons (fC (.int 7)) (fNil))))) (fC (.int 3))) (fNil))))) (fFrz (fCallN 2 [2] [] m__law_take (fRef 2 (fCons (fC (.int 3)) (fNil)))))) (gN [] 8))
 (sSeq (sAsg (fCl tupD (fCons (fVar [] 4) (fCons (fVar [] 5) (fCons (fOp addD (fOp ixD (fVar [] 6) (fC (.int 2))) (fVar [] 8)) (fNil))))) (gN [] 9))
 (sSeq (sIf (fTst (fOp eqD (fFrz (fCallN 2 [2] [] m__law_take (fRef 2 (fCons (fC (.int 6)) (fNil))))) (fC (.int 0)))) (sAsg (fOp ixD (fCl lstD (fCons (fCl tupD (fCons (fOp addD (fVar [] 4) (fC (.int 1))) (fCons (fVar [] 5) (fCons (fOp ixD (fVar [] 6) (fC (.int 2))) (fNil))))) (fCons (fCl tupD (fCons (fVar [] 4) (fCons (fOp subD (fVar [] 5) (fC (.int 1))) (fCons (fOp ixD (fVar [] 6) (fC (.int 2))) (fNil))))) (fNil)))) (fFrz (fCallN 2 [2] [] m__law_take (fRef 2 (fCons (fC (.int 2)) (fNil)))))) (gN [] 9)) (sNil))
 (sIf (fNot (fTru (fFrz (fCallN 2 [] [] m__law_right (fCons (fVar [] 6) (fCons (fVar [] 9) (fNil))))))) (sRet (fC (.bl false))) (sNil))))
def l2_law : DL.Env → SOut :=
 sSeq (sAsg (fCallN 2 [] [] m__law_pool (fCons (fVar [] 0) (fCons (fVar [] 1) (fNil)))) (gN [] 2))
 (sSeq (sAsg (fOp ixD (fCl lstD (fCons (fC (.int 1)) (fCons (fC (.int 2)) (fCons (fOp addD (fC (.int 1)) (fFrz (fCallN 2 [2] [] m__law_take (fRef 2 (fCons (fC (.int 30)) (fNil)))))) (fCons (fOp addD (fOp powD (fC (.int 10)) (fC (.int 6))) (fC (.int 3))) (fNil)))))) (fFrz (fCallN 2 [2] [] m__law_take (fRef 2 (fCons (fC (.int 4)) (fNil)))))) (gN [] 3))
 (sSeq (sPar [] 4 5 (fCons (fOp mulD (fFrz (fCallN 1 [2] [] m__law_integer (fRef 2 (fNil)))) (fVar [] 3)) (fCons (fOp mulD (fFrz (fCallN 1 [2] [] m__law_integer (fRef 2 (fNil)))) (fVar [] 3)) (fNil))))
 (sSeq (sIf (fTst (fOp eqD (fFrz (fCallN 2 [2] [] m__law_take (fRef 2 (fCons (fC (.int 4)) (fNil))))) (fC (.int 0)))) (sAsg (fC (.int 0)) (gN [] 4)) (sNil))
 (sSeq (sIf (fTst (fOp eqD (fFrz (fCallN 2 [2] [] m__law_take (fRef 2 (fCons (fC (.int 4)) (fNil))))) (fC (.int 0)))) (sAsg (fC (.int 0)) (gN [] 5)) (sNil))
 (sSeq (sAsg (fCl tupD (fCons (fVar [] 4) (fCons (fVar [] 5) (fCons (fFrz (fCallN 1 [2] [] m__law_integer (fRef 2 (fNil)))) (fNil))))) (gN [] 6))
 (sSeq (sFor (fRng1 (fCons (fC (.int 4)) (fNil))) (gN [] 7) (l1_law))
 (sSeq (sAsg (fOp ixD (fCl lstD (fCons (fC .non) (fCons (fCl listD (fCons (fVar [] 6) (fNil))) (fCons (fSl slD (fVar [] 6) (fNoP) (fPart (fC (.int 2))) resE) (fCons (fCl tupD (fCons (fVar [] 4) (fCons (fC (.bl true)) (fCons (fC (.int 0)) (fNil))))) (fCons (fC (.str "E")) (fNil))))))) (fFrz (fCallN 2 [2] [] m__law_take (fRef 2 (fCons (fC (.int 5)) (fNil)))))) (gN [] 10))
 (sIf (fOr (fNot (fTru (fFrz (fCallN 2 [] [] m__law_refused (fCons (fVar [] 10) (fCons (fVar [] 6) (fNil))))))) (fNot (fTru (fFrz (fCallN 2 [] [] m__law_refused (fCons (fVar [] 6) (fCons (fVar [] 10) (fNil)))))))) (sRet (fC (.bl false))) (sNil)))))))))
def b_law : DL.Env → SOut :=
 sSeq (sFor (fRng1 (fCons (fCl maxD (fCons (fC (.int 1)) (fCons (fCl minD (fCons (fC (.int 8)) (fCons (fCl lenD (fCons (fVar [] 0) (fNil))) (fNil)))) (fNil)))) (fNil))) (gN [] 1) (l2_law))
 (sRet (fAndV (fFrz (fCallN 2 [] [] m__law_right (fCons (fCl tupD (fCons (fC (.int 0)) (fCons (fC (.int 0)) (fCons (fC (.int 5)) (fNil))))) (fCons (fCl tupD (fCons (fC (.int 0)) (fCons (fC (.int 0)) (fCons (fC (.int 5)) (fNil))))) (fNil))))) (fOp isD (fFrz (fCallN 2 [] [] m_conjugator (fCons (fCl tupD (fCons (fC (.int 0)) (fCons (fC (.int 0)) (fCons (fC (.int 5)) (fNil))))) (fCons (fCl tupD (fCons (fC (.int 0)) (fCons (fC (.int 0)) (fCons (fC (.int 6)) (fNil))))) (fNil))))) (fC .non))))
def m_law : List D → FOut := runF 0 11 b_law
end Lw
set_option linter.all false
set_option maxRecDepth 100000
set_option maxHeartbeats 1000000
namespace Lw
open PySem PySem.Spec PyProof.Rows L2 DL
/-! ### draws -/
theorem mul_ok {i j : Int} (h1 : -(2 ^ 63) < j) (h2 : j < 2 ^ 63) : IntMulOk i j := IntMulOk.of_right (intBits_le_64 (by omega) (by omega))
theorem log_ok {n : Int} (h0 : 0 < n) (h : n < 2 ^ 64) : n.natAbs.log2 < 9000 := by
  have h1 : n.natAbs < 2 ^ 9000 := Nat.lt_of_lt_of_le (by omega) (Nat.pow_le_pow_right (by decide) (by decide : 64 ≤ 9000))
  exact (Nat.log2_lt (by omega)).mpr h1
/-- a pool of draws -/
def Pool (d : D) : Prop := ∃ c s : Int, d = .lst true [.int c, .int s] ∧ 0 ≤ c ∧ 0 ≤ s ∧ s < 2147483647
theorem draw_first {c s n : Int} (hc : 0 < c) (hn : 0 < n) (hn2 : n < 2 ^ 62) :
    m__law_take [.lst true [.int c, .int s], .int n] = .ok (.int (c % n)) [.lst true [.int (c / n), .int s]] := by
  have h1 := log_ok hn (by omega)
  simp [m__law_take, b__law_take, hc, hn, h1]
theorem draw_next {c s n : Int} (hc : ¬ 0 < c) (hs : 0 ≤ s) (hs2 : s < 2147483647) (hn : 0 < n) (hn2 : n < 2 ^ 62) :
    m__law_take [.lst true [.int c, .int s], .int n] = .ok (.int ((((s * 48271 + 11) % 2147483647) * ((s * 48271 + 11) % 2147483647)) % 2147483629 / 64 % n)) [.lst true [.int c, .int ((s * 48271 + 11) % 2147483647)]] := by
  have h1 : IntMulOk s 48271 := mul_ok (by omega) (by omega)
  have h2 : IntMulOk ((s * 48271 + 11) % 2147483647) ((s * 48271 + 11) % 2147483647) := mul_ok (by omega) (by omega)
  have h3 := log_ok (n := 64) (by omega) (by omega)
  simp at h3
  simp [m__law_take, b__law_take, hc, hn, h1, h2, h3]
theorem draw {p : D} (hp : Pool p) {n : Int} (hn : 0 < n) (hn2 : n < 2 ^ 62) : ∃ (r : Int) (p' : D), m__law_take [p, .int n] = .ok (.int r) [p'] ∧ Pool p' ∧ 0 ≤ r ∧ r < n := by
  obtain ⟨c, s, rfl, h1, h2, h3⟩ := hp
  by_cases hc : 0 < c
  · exact ⟨_, _, draw_first hc hn hn2, ⟨_, _, rfl, Int.ediv_nonneg h1 (by omega), h2, h3⟩, Int.emod_nonneg _ (by omega), Int.emod_lt_of_pos _ hn⟩
  · exact ⟨_, _, draw_next hc h2 h3 hn hn2, ⟨_, _, rfl, h1, by omega, by omega⟩, Int.emod_nonneg _ (by omega), Int.emod_lt_of_pos _ hn⟩
theorem canAll : ∀ ns : List Int, ∃ ps, toPys (ns.map D.int) = some ps ∧ PyData.canLayAll0 ps = true ∧ PyData.depthAll ps = 0 ∧ PyData.eqvAll ps [] = ns.isEmpty
  | [] => ⟨[], rfl, rfl, rfl, rfl⟩
  | n :: ns => by
    obtain ⟨ps, h1, h2, h3, _⟩ := canAll ns
    refine ⟨.int n :: ps, ?_, ?_, ?_, ?_⟩
    · show (match toPy (D.int n), toPys (ns.map D.int) with
        | some p, some ps => some (p :: ps)
        | _, _ => none) = _
      rw [h1]
      rfl
    · simp [PyData.canLayAll0, PyData.canLay0, h2]
    · simp [PyData.depthAll, PyData.depth, h3]
    · simp [PyData.eqvAll]
@[simp] theorem script_ne {ns : List Int} {o : Bool} : eqB (.ro (ns.map D.int)) (.lst o []) = some ns.isEmpty := by
  obtain ⟨ps, h1, h2, h3, h4⟩ := canAll ns
  have e1 : toPy (.ro (ns.map D.int)) = some (.list ps) := by
    show (toPys (ns.map D.int)).map PyData.list = _
    rw [h1]
    rfl
  unfold eqB
  rw [e1]
  show (if SeqAt.shaped (.list ps) = true ∧ SeqAt.shaped (.list []) = true then some (PyData.eqv (.list ps) (.list [])) else none) = _
  have e2 : SeqAt.shaped (.list ps) = true := by
    unfold SeqAt.shaped
    rw [Bool.and_eq_true, decide_eq_true_eq]
    refine ⟨h2, ?_⟩
    show PyData.depthAll ps + 1 ≤ 64
    rw [h3]
    decide
  rw [if_pos ⟨e2, rfl⟩]
  show some (PyData.eqvAll ps []) = _
  rw [h4]
theorem at_map {ns : List Int} {j : Nat} (h : j < ns.length) : atI (ns.map D.int) (j : Int) = some (.int ns[j]) := by
  rw [at_nat, List.getElem?_map, List.getElem?_eq_getElem h]
  rfl
theorem draws (ns : List Int) (k : Nat) (hk : k < 1000) : ∃ p, m__law_pool [.ro (ns.map D.int), .int (k : Int)] = .ok p [] ∧ Pool p := by
  have g1 : IntMulOk 104729 (k : Int) := mul_ok (by omega) (by omega)
  have g2 : ∀ c : Int, IntMulOk (c % 2147483629 + 104729 * (k : Int) + 11) 48271 := fun c => mul_ok (by omega) (by omega)
  have g3 : ∀ c : Int, IntMulOk c 0 := fun c => mul_ok (by omega) (by omega)
  have g4 : ∀ c : Int, IntMulOk c 1 := fun c => mul_ok (by omega) (by omega)
  have pool : ∀ c t : Int, (0 ≤ c) → Pool (.lst true [.int c, .int (t % 2147483647)]) := fun c t h => ⟨c, _, rfl, h, Int.emod_nonneg _ (by omega), Int.emod_lt_of_pos _ (by omega)⟩
  cases ns with
  | nil =>
    refine ⟨_, ?_, pool 0 ((0 % 2147483629 + 104729 * k + 11) * 48271) (by omega)⟩
    have e := g2 0
    simp at e
    have h0 : (0 : Int) ≤ k := by omega
    have z := script_ne (ns := []) (o := false)
    simp at z
    simp [m__law_pool, b__law_pool, g1, e, g3, h0, z]
  | cons n r =>
    generalize hl : (n :: r) = ns
    have l0 : 0 < ns.length := by rw [← hl, List.length_cons]; omega
    have l1 : (0 : Int) < (ns.length : Int) := by omega
    have hj : k % ns.length < ns.length := Nat.mod_lt _ l0
    have hx := at_map hj
    have hc : ((k % ns.length : Nat) : Int) = (k : Int) % (ns.length : Int) := by simp
    rw [hc] at hx
    have he : ns.isEmpty = false := by rw [← hl]; rfl
    generalize ns[k % ns.length] = x at hx
    by_cases hk2 : ns.length ≤ k
    · by_cases h : 1000000000000000000 ≤ x % 1000003
      · omega
      · refine ⟨_, ?_, pool 0 ((x % 1000003 % 2147483629 + 104729 * k + 11) * 48271) (by omega)⟩
        simp [m__law_pool, b__law_pool, g1, g2, g3, hx, he, l0, hk2, h, -Int.emod_emod_of_dvd]
    · by_cases h : 1000000000000000000 ≤ x
      · refine ⟨_, ?_, pool x ((x % 2147483629 + 104729 * k + 11) * 48271) (by omega)⟩
        simp [m__law_pool, b__law_pool, g1, g2, g4, hx, he, l0, hk2, h]
      · refine ⟨_, ?_, pool 0 ((x % 2147483629 + 104729 * k + 11) * 48271) (by omega)⟩
        simp [m__law_pool, b__law_pool, g1, g2, g3, hx, he, l0, hk2, h]

theorem mul_mid {a b : Int} (h1 : a.natAbs < 2 ^ 4000) (h2 : b.natAbs < 2 ^ 4000) : IntMulOk a b := by
  have e1 : Builtin.Int.intBits a ≤ 4000 := PyProof.Rows.intBits_le h1
  have e2 : Builtin.Int.intBits b ≤ 4000 := PyProof.Rows.intBits_le h2
  unfold IntMulOk
  intro h
  rw [Bool.and_eq_true] at h
  have h3 := h.2
  unfold Builtin.Int.intTooBig bitsLine at h3
  rw [decide_eq_true_eq] at h3
  omega
theorem lt_mid {a : Int} (h1 : -(2 ^ 200) < a) (h2 : a < 2 ^ 200) : a.natAbs < 2 ^ 4000 :=
  Nat.lt_of_lt_of_le (by omega : a.natAbs < 2 ^ 200) (Nat.pow_le_pow_right (by decide) (by decide))
theorem mul_200 {a b : Int} (h1 : -(2 ^ 200) < a) (h2 : a < 2 ^ 200) (h3 : -(2 ^ 200) < b) (h4 : b < 2 ^ 200) : IntMulOk a b := mul_mid (lt_mid h1 h2) (lt_mid h3 h4)

/-! ### values -/
def isI (d : D) : Bool := match d with
  | .int _ => true
  | _ => false
def Kd (d : D) : Prop := (tyName d).isSome = true ∧ owned d = false
@[simp] theorem is_integer_at {d : D} (h : Kd d) : m_is_integer [d] = .ok (.bl (isI d)) [] := by
  obtain ⟨h1, h2⟩ := h
  cases d with
  | lst o ds => cases o <;> first | (simp [m_is_integer, b_is_integer, isTy, tyKnown, isI]; done) | cases h2
  | _ => first | (simp [m_is_integer, b_is_integer, isTy, tyKnown, isI]; done) | cases h1

theorem is_state_tup {ds : List D} (h : ∀ d ∈ ds, Kd d) : m_is_state [.tup ds] = .ok (.bl (decide (ds.length = 3) && ds.all isI)) [] := by
  by_cases hl : ds.length = 3
  · have e := lc_map (g := gN [] 1) (T := fYes) (Fe := e1_is_state) (vs := [1]) (ρ := [some (.tup ds), none]) (fun d => .bl (isI d)) ds [] (by rw [sizeLine_eq, hl]; decide) fun d hd => by
      have k := h d hd
      exact ⟨[some (.tup ds), some d], [some (.tup ds), some d], [some (.tup ds), some d], true, true, rfl, rfl, by simp [e1_is_state, k, k.2], rfl⟩
    simp [m_is_state, b_is_state, isTy, tyKnown, hl, e]
  · have hl2 : ¬ (ds.length : Int) = 3 := by omega
    simp [m_is_state, b_is_state, isTy, tyKnown, hl, hl2]
theorem is_state_no {d : D} (h : Kd d) (h2 : ∀ ds, d ≠ .tup ds) : m_is_state [d] = .ok (.bl false) [] := by
  obtain ⟨k1, k2⟩ := h
  cases d with
  | tup ds => exact absurd rfl (h2 ds)
  | lst o ds => cases o <;> first | (simp [m_is_state, b_is_state, isTy, tyKnown]; done) | cases k2
  | _ => first | (simp [m_is_state, b_is_state, isTy, tyKnown]; done) | cases k1
/-- what the laws call a value of no kind -/
def Val (d : D) : Prop := Kd d ∧ ∀ ds, d = .tup ds → ∀ e ∈ ds, Kd e
def stB (d : D) : Bool := match d with
  | .tup ds => decide (ds.length = 3) && ds.all isI
  | _ => false
@[simp] theorem is_state_at {d : D} (h : Val d) : m_is_state [d] = .ok (.bl (stB d)) [] := by
  cases d with
  | tup ds => exact is_state_tup (h.2 ds rfl)
  | _ => exact is_state_no h.1 (fun ds e => by cases e)

@[simp] theorem is_displacement_at {d : D} (h : Val d) : m_is_displacement [d] = .ok (.bl (stB d)) [] := by
  simp [m_is_displacement, b_is_displacement, h, h.1.2]

@[simp] theorem check_displacement_at {d : D} (h : Val d) : m_check_displacement [d] = if stB d = true then .ok .non [] else .ex ⟨"InvalidDisplacement", []⟩ [] := by
  cases e : stB d <;> simp [m_check_displacement, b_check_displacement, h, h.1.2, e]

abbrev ST (x h s : Int) : D := .tup [.int x, .int h, .int s]
theorem val_st {x h s : Int} : Val (ST x h s) := ⟨⟨rfl, rfl⟩, fun ds e d hd => by
  cases e
  simp at hd
  rcases hd with rfl | rfl | rfl <;> exact ⟨rfl, rfl⟩⟩
theorem eqST {x h s : Int} : eqB (ST x h s) (ST x h s) = some true := eqB_self rfl
theorem eqST2 {a b c d e f : Int} : eqB (ST a b c) (ST d e f) = some (decide (a = d) && (decide (b = e) && decide (c = f))) := by
  show (if SeqAt.shaped (.tuple [.int a, .int b, .int c]) = true ∧ SeqAt.shaped (.tuple [.int d, .int e, .int f]) = true then some (PyData.eqv (.tuple [.int a, .int b, .int c]) (.tuple [.int d, .int e, .int f])) else none) = _
  rw [if_pos ⟨rfl, rfl⟩]
  simp only [PyData.eqv, PyData.eqvAll, Bool.and_true]
  rw [Bool.beq_eq_decide_eq, Bool.beq_eq_decide_eq, Bool.beq_eq_decide_eq]

theorem apply_at {x h s a b c : Int} (m : IntMulOk h a) : m_apply_to [ST x h s, ST a b c] = .ok (ST (x + a) (h + b) (s + c + h * a)) [] := by
  simp [m_apply_to, b_apply_to, m]

/-! ### drawn states -/
def Sm (x : Int) : Prop := -10000000000000000 < x ∧ x < 10000000000000000
theorem integer {p : D} (hp : Pool p) : ∃ (x : Int) (p' : D), m__law_integer [p] = .ok (.int x) [p'] ∧ Pool p' ∧ Sm x := by
  have ho : ∀ {p : D}, Pool p → owned p = true := fun ⟨_, _, e, _⟩ => by rw [e]; rfl
  obtain ⟨w, p1, e1, h1, r1, s1⟩ := draw hp (n := 4) (by decide) (by decide)
  by_cases c1 : w < 2
  · obtain ⟨v, p2, e2, h2, r2, s2⟩ := draw h1 (n := 13) (by decide) (by decide)
    refine ⟨v - 6, p2, ?_, h2, by unfold Sm; omega⟩
    simp [m__law_integer, b__law_integer, e1, e2, c1, ho hp]
  · by_cases c2 : w = 2
    · subst c2
      obtain ⟨v, p2, e2, h2, r2, s2⟩ := draw h1 (n := 2001) (by decide) (by decide)
      refine ⟨v - 1000, p2, ?_, h2, by unfold Sm; omega⟩
      simp [m__law_integer, b__law_integer, e1, e2, ho hp]
    · obtain ⟨v, p2, e2, h2, r2, s2⟩ := draw h1 (n := 1000000) (by decide) (by decide)
      obtain ⟨v3, p3, e3, h3, r3, s3⟩ := draw h2 (n := 1000000000) (by decide) (by decide)
      obtain ⟨v4, p4, e4, h4, r4, s4⟩ := draw h3 (n := 2) (by decide) (by decide)
      have m1 : IntMulOk v 1000000000 := mul_ok (by omega) (by omega)
      by_cases c4 : v4 = 0
      · subst c4
        have m2 : IntMulOk (v * 1000000000 + v3) 1 := mul_ok (by omega) (by omega)
        refine ⟨v * 1000000000 + v3, p4, ?_, h4, by unfold Sm; omega⟩
        simp [m__law_integer, b__law_integer, e1, e2, e3, e4, c1, c2, m1, m2, ho hp]
      · have c5 : v4 = 1 := by omega
        subst c5
        have m2 : IntMulOk (v * 1000000000 + v3) (-1) := mul_ok (by omega) (by omega)
        refine ⟨-(v * 1000000000 + v3), p4, ?_, h4, by unfold Sm; omega⟩
        simp [m__law_integer, b__law_integer, e1, e2, e3, e4, c1, c2, m1, m2, ho hp]

end Lw
set_option linter.all false
set_option maxRecDepth 100000
set_option maxHeartbeats 1000000
namespace Lw
open PySem PySem.Spec PyProof.Rows L2 DL
@[simp] theorem fZip_ap {ρ : DL.Env} {F : DL.Env → Out (List D)} : fZip F ρ = (F ρ).bind zip2 := rfl
@[simp] theorem zip2_tup {ρ : DL.Env} {ds es : List D} : zip2 [.tup ds, .tup es] ρ = .ok (zipD ds es) ρ true := rfl
theorem mul_bits {a b : Int} {m n : Nat} (h1 : Builtin.Int.intBits a ≤ m) (h2 : Builtin.Int.intBits b ≤ n) (h : m + n ≤ 134217728) : IntMulOk a b := by
  unfold IntMulOk
  intro z
  rw [Bool.and_eq_true] at z
  have h3 := z.2
  unfold Builtin.Int.intTooBig bitsLine at h3
  rw [decide_eq_true_eq] at h3
  omega
/-- what euclid keeps -/
structure Inv (a b : Int) (k : Nat) (r0 p0 q0 r1 p1 q1 : Int) : Prop where
  n0 : 0 ≤ r0
  n1 : 0 ≤ r1
  e0 : r0 = p0 * a + q0 * b
  e1 : r1 = p1 * a + q1 * b
  dv : ∀ d : Int, d ∣ r0 → d ∣ r1 → d ∣ a ∧ d ∣ b
  b0 : r0 < 2 ^ 200
  b1 : r1 < 2 ^ 200
  c0 : Builtin.Int.intBits p0 ≤ 201 * k + 2
  c1 : Builtin.Int.intBits q0 ≤ 201 * k + 2
  c2 : Builtin.Int.intBits p1 ≤ 201 * k + 2
  c3 : Builtin.Int.intBits q1 ≤ 201 * k + 2
theorem bits_of {x : Int} (h1 : -(2 ^ 200) < x) (h2 : x < 2 ^ 200) : Builtin.Int.intBits x ≤ 200 := PyProof.Rows.intBits_le (by omega)
theorem Inv.step {a b : Int} {k : Nat} {r0 p0 q0 r1 p1 q1 : Int} (I : Inv a b k r0 p0 q0 r1 p1 q1) (h : 0 < r1) : Inv a b (k + 1) r1 p1 q1 (r0 - r0 / r1 * r1) (p0 - r0 / r1 * p1) (q0 - r0 / r1 * q1) := by
  have n0 := I.n0
  have e : r0 - r0 / r1 * r1 = r0 % r1 := by
    have := Int.mul_ediv_add_emod r0 r1
    grind
  have m1 := Int.emod_nonneg r0 (by omega : r1 ≠ 0)
  have m2 := Int.emod_lt_of_pos r0 h
  have b1 := I.b1
  have b0 := I.b0
  have q0' : 0 ≤ r0 / r1 := Int.ediv_nonneg n0 (by omega)
  have q1' : r0 / r1 ≤ r0 := Int.ediv_le_self _ n0
  have bq := bits_of (x := r0 / r1) (by omega) (by omega)
  have f1 := intBits_sub_le I.c0 (intBits_mul_le bq I.c2)
  have f2 := intBits_sub_le I.c1 (intBits_mul_le bq I.c3)
  refine ⟨I.n1, by rw [e]; exact m1, I.e1, ?_, fun d h1 h2 => I.dv d ?_ h1, b1, by rw [e]; omega, ?_, ?_, ?_, ?_⟩
  · have := I.e0
    have := I.e1
    grind
  · have z : r0 = (r0 - r0 / r1 * r1) + r0 / r1 * r1 := by omega
    rw [z]
    exact Int.dvd_add h2 (Int.dvd_mul_of_dvd_right h1)
  · have := I.c2; omega
  · have := I.c3; omega
  · omega
  · omega
end Lw
set_option linter.all false
set_option maxRecDepth 100000
set_option maxHeartbeats 1000000
namespace Lw
open PySem PySem.Spec PyProof.Rows L2 DL
theorem big_log {r : Int} (h : 0 < r) (h2 : r < 2 ^ 200) : r.natAbs.log2 < 9000 := by
  have h1 : r.natAbs < 2 ^ 9000 := Nat.lt_of_lt_of_le (by omega : r.natAbs < 2 ^ 200) (Nat.pow_le_pow_right (by decide) (by decide : 200 ≤ 9000))
  exact (Nat.log2_lt (by omega)).mpr h1
theorem turn {a b : Int} {k : Nat} {r0 p0 q0 r1 p1 q1 : Int} (I : Inv a b k r0 p0 q0 r1 p1 q1) (hk : k ≤ 1000) (h : 0 < r1) {s0 s1 s4 s5 s6 s7 : Option D} :
    l1_euclid [s0, s1, some (ST r0 p0 q0), some (ST r1 p1 q1), s4, s5, s6, s7] =
      .nx [s0, s1, some (ST r1 p1 q1), some (ST (r0 - r0 / r1 * r1) (p0 - r0 / r1 * p1) (q0 - r0 / r1 * q1)), some (.int (r0 / r1)), some (ST (r0 - r0 / r1 * r1) (p0 - r0 / r1 * p1) (q0 - r0 / r1 * q1)), none, none] := by
  have n0 := I.n0
  have b0 := I.b0
  have b1 := I.b1
  have q0' : 0 ≤ r0 / r1 := Int.ediv_nonneg n0 (by omega)
  have q1' : r0 / r1 ≤ r0 := Int.ediv_le_self _ n0
  have bq := bits_of (x := r0 / r1) (by omega) (by omega)
  have br := bits_of (x := r1) (by omega) (by omega)
  have m1 : IntMulOk (r0 / r1) r1 := mul_bits bq br (by decide)
  have m2 : IntMulOk (r0 / r1) p1 := mul_bits bq I.c2 (by omega)
  have m3 : IntMulOk (r0 / r1) q1 := mul_bits bq I.c3 (by omega)
  have l := big_log h b1
  have z : zipD [D.int r0, D.int p0, D.int q0] [D.int r1, D.int p1, D.int q1] = [.tup [.int r0, .int r1], .tup [.int p0, .int p1], .tup [.int q0, .int q1]] := rfl
  simp [l1_euclid, sPar, h, l, z, lcD, e1_euclid, m1, m2, m3, sizeLine_eq]
theorem test {r0 p0 q0 r1 p1 q1 : Int} {s0 s1 s4 s5 s6 s7 : Option D} : t1_euclid [s0, s1, some (ST r0 p0 q0), some (ST r1 p1 q1), s4, s5, s6, s7] = .ok (!decide (r1 = 0)) [s0, s1, some (ST r0 p0 q0), some (ST r1 p1 q1), s4, s5, s6, s7] true := by
  simp [t1_euclid]
/-- what euclid ends with -/
structure Fin (a b r p q : Int) : Prop where
  n : 0 ≤ r
  e : r = p * a + q * b
  d1 : r ∣ a
  d2 : r ∣ b
  c0 : Builtin.Int.intBits p ≤ 300000
  c1 : Builtin.Int.intBits q ≤ 300000
theorem while_stop {T : DL.Env → Out Bool} {F : DL.Env → SOut} {n : Nat} {ρ ρ1 : DL.Env} {q : Bool} (h : T ρ = .ok false ρ1 q) : whileD T F (n + 1) ρ = .nx ρ1 := by
  unfold whileD
  rw [h]
  rfl
theorem while_step {T : DL.Env → Out Bool} {F : DL.Env → SOut} {n : Nat} {ρ ρ1 ρ2 : DL.Env} {q : Bool} (h : T ρ = .ok true ρ1 q) (h2 : F ρ1 = .nx ρ2) : whileD T F (n + 1) ρ = whileD T F n ρ2 := by
  conv => lhs; unfold whileD
  rw [h]
  simp only [s_ok, if_true]
  rw [h2]
/-- the loop, by the product of the two numbers -/
theorem loop {a b : Int} : ∀ (n k : Nat) {r0 p0 q0 r1 p1 q1 : Int} {s0 s1 s4 s5 s6 s7 : Option D}, Inv a b k r0 p0 q0 r1 p1 q1 → k + n ≤ 900 → r1 < r0 → r0 * r1 < 2 ^ n → ∀ f : Nat, n + 1 < f →
    ∃ r p q t u4 u5 u6 u7, whileD t1_euclid l1_euclid f [s0, s1, some (ST r0 p0 q0), some (ST r1 p1 q1), s4, s5, s6, s7] = .nx [s0, s1, some (ST r p q), t, u4, u5, u6, u7] ∧ Fin a b r p q := by
  intro n
  induction n with
  | zero =>
    intro k r0 p0 q0 r1 p1 q1 s0 s1 s4 s5 s6 s7 I hk h1 h2 f hf
    have n1 := I.n1
    have z : r1 = 0 := by
      rcases Int.lt_or_le 0 r1 with h | h
      · have : 1 * 1 ≤ r0 * r1 := Int.mul_le_mul (by omega) (by omega) (by decide) (by omega)
        omega
      · omega
    subst z
    obtain ⟨f', rfl⟩ : ∃ f', f = f' + 1 := ⟨f - 1, by omega⟩
    have g := I.dv r0 (Int.dvd_refl _) (Int.dvd_zero _)
    have c0 := I.c0
    have c1 := I.c1
    exact ⟨r0, p0, q0, _, _, _, _, _, while_stop test, I.n0, I.e0, g.1, g.2, by omega, by omega⟩
  | succ n ih =>
    intro k r0 p0 q0 r1 p1 q1 s0 s1 s4 s5 s6 s7 I hk h1 h2 f hf
    have n1 := I.n1
    obtain ⟨f', rfl⟩ : ∃ f', f = f' + 1 := ⟨f - 1, by omega⟩
    by_cases z : r1 = 0
    · subst z
      have g := I.dv r0 (Int.dvd_refl _) (Int.dvd_zero _)
      have c0 := I.c0
      have c1 := I.c1
      exact ⟨r0, p0, q0, _, _, _, _, _, while_stop test, I.n0, I.e0, g.1, g.2, by omega, by omega⟩
    · have h : 0 < r1 := by omega
      have J := I.step h
      have e : r0 - r0 / r1 * r1 = r0 % r1 := by
        have := Int.mul_ediv_add_emod r0 r1
        grind
      have m1 := Int.emod_nonneg r0 (by omega : r1 ≠ 0)
      have m2 := Int.emod_lt_of_pos r0 h
      have q1' : 1 ≤ r0 / r1 := by
        rcases Int.lt_or_le (r0 / r1) 1 with y | y
        · have y2 : r0 / r1 * r1 ≤ 0 * r1 := Int.mul_le_mul_of_nonneg_right (by omega) (by omega)
          omega
        · exact y
      have y2 : 1 * r1 ≤ r0 / r1 * r1 := Int.mul_le_mul_of_nonneg_right q1' (by omega)
      have half : 2 * (r0 - r0 / r1 * r1) ≤ r0 := by omega
      have pr : r1 * (r0 - r0 / r1 * r1) < 2 ^ n := by
        have y3 : r1 * (2 * (r0 - r0 / r1 * r1)) ≤ r1 * r0 := Int.mul_le_mul_of_nonneg_left half (by omega)
        have y4 : r1 * r0 = r0 * r1 := Int.mul_comm _ _
        have y5 : r1 * (2 * (r0 - r0 / r1 * r1)) = 2 * (r1 * (r0 - r0 / r1 * r1)) := by grind
        have y6 : (2 : Int) ^ (n + 1) = 2 * 2 ^ n := by rw [Int.pow_succ, Int.mul_comm]
        omega
      obtain ⟨r, p, q, t, u4, u5, u6, u7, w1, w2⟩ := ih (k + 1) (s0 := s0) (s1 := s1) (s4 := some (.int (r0 / r1))) (s5 := some (ST (r0 - r0 / r1 * r1) (p0 - r0 / r1 * p1) (q0 - r0 / r1 * q1))) (s6 := none) (s7 := none) J (by omega) (by omega) pr f' (by omega)
      refine ⟨r, p, q, t, u4, u5, u6, u7, ?_, w2⟩
      rw [while_step (by rw [test, decide_eq_false z]; rfl) (turn I (by omega) h), w1]
end Lw
set_option linter.all false
set_option maxRecDepth 100000
set_option maxHeartbeats 1000000
namespace Lw
open PySem PySem.Spec PyProof.Rows L2 DL
abbrev Nb (x : Int) : Prop := -(2 ^ 200) < x ∧ x < 2 ^ 200
def sg (x : Int) : Int := if 0 ≤ x then 1 else -1
def ab (x : Int) : Int := if x < 0 then -x else x
theorem ab_sg (x : Int) : ab x = sg x * x := by unfold ab sg; split <;> split <;> omega
theorem ab_dvd {x d : Int} (h : d ∣ ab x) : d ∣ x := by
  unfold ab at h
  split at h
  · exact (Int.dvd_neg).mp h
  · exact h
theorem sg_bits (x : Int) : Builtin.Int.intBits (sg x) ≤ 2 := by
  unfold sg
  split <;> decide
theorem inv0 {a b : Int} (ha : Nb a) (hb : Nb b) : Inv a b 0 (ab a) (sg a) 0 (ab b) 0 (sg b) := by
  have e1 := ab_sg a
  have e2 := ab_sg b
  have b1 : 0 ≤ ab a ∧ ab a < 2 ^ 200 := by unfold ab; split <;> omega
  have b2 : 0 ≤ ab b ∧ ab b < 2 ^ 200 := by unfold ab; split <;> omega
  have z : Builtin.Int.intBits 0 ≤ 2 := by decide
  exact ⟨b1.1, b2.1, by rw [Int.zero_mul, Int.add_zero]; exact e1, by rw [Int.zero_mul, Int.zero_add]; exact e2, fun d h1 h2 => ⟨ab_dvd h1, ab_dvd h2⟩, b1.2, b2.2, sg_bits a, z, z, sg_bits b⟩
theorem loop0 {a b : Int} (ha : Nb a) (hb : Nb b) {s0 s1 s4 s5 s6 s7 : Option D} :
    ∃ r p q t u4 u5 u6 u7, whileD t1_euclid l1_euclid 1000 [s0, s1, some (ST (ab a) (sg a) 0), some (ST (ab b) 0 (sg b)), s4, s5, s6, s7] = .nx [s0, s1, some (ST r p q), t, u4, u5, u6, u7] ∧ Fin a b r p q := by
  have I := inv0 ha hb
  have prod : ∀ x y : Int, 0 ≤ x → x < 2 ^ 200 → 0 ≤ y → y < 2 ^ 200 → x * y < 2 ^ 401 := fun x y h1 h2 h3 h4 => by
    have z : x * y ≤ 2 ^ 200 * 2 ^ 200 := Int.mul_le_mul (by omega) (by omega) h3 (by omega)
    have w : (2 : Int) ^ 200 * 2 ^ 200 < 2 ^ 401 := by decide
    omega
  by_cases z : ab b = 0
  · rw [z] at I ⊢
    have g := I.dv (ab a) (Int.dvd_refl _) (Int.dvd_zero _)
    have c0 := I.c0
    have c1 := I.c1
    exact ⟨ab a, sg a, 0, _, _, _, _, _, while_stop (n := 999) test, I.n0, I.e0, g.1, g.2, by omega, by omega⟩
  · have n1 := I.n1
    have h : 0 < ab b := by omega
    have J := I.step h
    have e : ab a - ab a / ab b * ab b = ab a % ab b := by
      have := Int.mul_ediv_add_emod (ab a) (ab b)
      grind
    have m1 := Int.emod_nonneg (ab a) (by omega : ab b ≠ 0)
    have m2 := Int.emod_lt_of_pos (ab a) h
    have jb := J.b1
    have ib := I.b1
    obtain ⟨r, p, q, t, u4, u5, u6, u7, w1, w2⟩ := loop 401 1 (s0 := s0) (s1 := s1) (s4 := some (.int (ab a / ab b))) (s5 := some (ST (ab a - ab a / ab b * ab b) (sg a - ab a / ab b * 0) (0 - ab a / ab b * sg b))) (s6 := none) (s7 := none) J (by decide) (by omega) (prod _ _ (by omega) ib (by omega) jb) 999 (by decide)
    refine ⟨r, p, q, t, u4, u5, u6, u7, ?_, w2⟩
    rw [while_step (n := 999) (by rw [test, decide_eq_false z]; rfl) (turn I (by decide) h), w1]
theorem euclid_at {a b : Int} (ha : Nb a) (hb : Nb b) : ∃ r p q, m_euclid [.int a, .int b] = .ok (ST r p q) [] ∧ Fin a b r p q := by
  obtain ⟨r, p, q, t, u4, u5, u6, u7, w1, w2⟩ := loop0 (s0 := some (.int a)) (s1 := some (.int b)) (s4 := none) (s5 := none) (s6 := none) (s7 := none) ha hb
  refine ⟨r, p, q, ?_, w2⟩
  unfold ab sg at w1
  by_cases c1 : a < 0 <;> by_cases c2 : b < 0
  · have d1 : ¬ 0 ≤ a := by omega
    have d2 : ¬ 0 ≤ b := by omega
    simp only [c1, c2, d1, d2, if_true, if_false] at w1
    simp [m_euclid, b_euclid, c1, c2, d1, d2, w1]
  · have d1 : ¬ 0 ≤ a := by omega
    have d2 : 0 ≤ b := by omega
    simp only [c1, c2, d1, d2, if_true, if_false] at w1
    simp [m_euclid, b_euclid, c1, c2, d1, d2, w1]
  · have d1 : 0 ≤ a := by omega
    have d2 : ¬ 0 ≤ b := by omega
    simp only [c1, c2, d1, d2, if_true, if_false] at w1
    simp [m_euclid, b_euclid, c1, c2, d1, d2, w1]
  · have d1 : 0 ≤ a := by omega
    have d2 : 0 ≤ b := by omega
    simp only [c1, c2, d1, d2, if_true, if_false] at w1
    simp [m_euclid, b_euclid, c1, c2, d1, d2, w1]
end Lw
set_option linter.all false
set_option maxRecDepth 100000
set_option maxHeartbeats 1000000
namespace Lw
open PySem PySem.Spec PyProof.Rows L2 DL
/-! ### the law's own divisor -/
structure CInv (a b x y : Int) : Prop where
  n0 : 0 ≤ x
  n1 : 0 ≤ y
  dv : ∀ d : Int, d ∣ x → d ∣ y → d ∣ a ∧ d ∣ b
  up : ∀ d : Int, d ∣ a → d ∣ b → d ∣ x ∧ d ∣ y
  b0 : x < 2 ^ 200
  b1 : y < 2 ^ 200
theorem CInv.step {a b x y : Int} (I : CInv a b x y) (h : 0 < y) : CInv a b y (x % y) := by
  have m1 := Int.emod_nonneg x (by omega : y ≠ 0)
  have m2 := Int.emod_lt_of_pos x h
  have b1 := I.b1
  refine ⟨I.n1, m1, fun d h1 h2 => I.dv d ?_ h1, fun d h1 h2 => ?_, b1, by omega⟩
  · have z := Int.mul_ediv_add_emod x y
    rw [← z]
    exact Int.dvd_add (Int.dvd_mul_of_dvd_left h1) h2
  · obtain ⟨u, v⟩ := I.up d h1 h2
    refine ⟨v, ?_⟩
    rw [Int.emod_def]
    exact Int.dvd_sub u (Int.dvd_mul_of_dvd_left v)
structure CFin (a b g : Int) : Prop where
  n : 0 ≤ g
  d1 : g ∣ a
  d2 : g ∣ b
  up : ∀ d : Int, d ∣ a → d ∣ b → d ∣ g
theorem cturn {x y : Int} (h : 0 < y) : l1__law_common [some (.int x), some (.int y)] = .nx [some (.int y), some (.int (x % y))] := by
  simp [l1__law_common, sPar, h]
theorem ctest {x y : Int} : t1__law_common [some (.int x), some (.int y)] = .ok (!decide (y = 0)) [some (.int x), some (.int y)] true := by
  simp [t1__law_common]
theorem cfin {a b x : Int} (I : CInv a b x 0) : CFin a b x := ⟨I.n0, (I.dv x (Int.dvd_refl _) (Int.dvd_zero _)).1, (I.dv x (Int.dvd_refl _) (Int.dvd_zero _)).2, fun d h1 h2 => (I.up d h1 h2).1⟩
theorem cloop {a b : Int} : ∀ (n : Nat) {x y : Int}, CInv a b x y → y < x → x * y < 2 ^ n → ∀ f : Nat, n + 1 < f → ∃ g t, whileD t1__law_common l1__law_common f [some (.int x), some (.int y)] = .nx [some (.int g), t] ∧ CFin a b g := by
  intro n
  induction n with
  | zero =>
    intro x y I h1 h2 f hf
    have n1 := I.n1
    have z : y = 0 := by
      rcases Int.lt_or_le 0 y with h | h
      · have : 1 * 1 ≤ x * y := Int.mul_le_mul (by omega) (by omega) (by decide) (by omega)
        omega
      · omega
    subst z
    obtain ⟨f', rfl⟩ : ∃ f', f = f' + 1 := ⟨f - 1, by omega⟩
    exact ⟨x, _, while_stop ctest, cfin I⟩
  | succ n ih =>
    intro x y I h1 h2 f hf
    have n1 := I.n1
    obtain ⟨f', rfl⟩ : ∃ f', f = f' + 1 := ⟨f - 1, by omega⟩
    by_cases z : y = 0
    · subst z
      exact ⟨x, _, while_stop ctest, cfin I⟩
    · have h : 0 < y := by omega
      have J := I.step h
      have m1 := Int.emod_nonneg x (by omega : y ≠ 0)
      have m2 := Int.emod_lt_of_pos x h
      have e := Int.mul_ediv_add_emod x y
      have q1' : 1 ≤ x / y := by
        rcases Int.lt_or_le (x / y) 1 with w | w
        · have w2 : y * (x / y) ≤ y * 0 := Int.mul_le_mul_of_nonneg_left (by omega) (by omega)
          omega
        · exact w
      have y2 : y * 1 ≤ y * (x / y) := Int.mul_le_mul_of_nonneg_left q1' (by omega)
      have half : 2 * (x % y) ≤ x := by omega
      have pr : y * (x % y) < 2 ^ n := by
        have y3 : y * (2 * (x % y)) ≤ y * x := Int.mul_le_mul_of_nonneg_left half (by omega)
        have y4 : y * x = x * y := Int.mul_comm _ _
        have y5 : y * (2 * (x % y)) = 2 * (y * (x % y)) := by grind
        have y6 : (2 : Int) ^ (n + 1) = 2 * 2 ^ n := by rw [Int.pow_succ, Int.mul_comm]
        omega
      obtain ⟨g, t, w1, w2⟩ := ih J m2 pr f' (by omega)
      refine ⟨g, t, ?_, w2⟩
      rw [while_step (by rw [ctest, decide_eq_false z]; rfl) (cturn h), w1]
theorem common {a b : Int} (ha : Nb a) (hb : Nb b) : ∃ g, m__law_common [.int a, .int b] = .ok (.int g) [] ∧ CFin a b g := by
  have b1 : 0 ≤ ab a ∧ ab a < 2 ^ 200 := by unfold ab; split <;> omega
  have b2 : 0 ≤ ab b ∧ ab b < 2 ^ 200 := by unfold ab; split <;> omega
  have up : ∀ x d : Int, d ∣ x → d ∣ ab x := fun x d h => by
    unfold ab
    split
    · exact (Int.dvd_neg).mpr h
    · exact h
  have I : CInv a b (ab a) (ab b) := ⟨b1.1, b2.1, fun d h1 h2 => ⟨ab_dvd h1, ab_dvd h2⟩, fun d h1 h2 => ⟨up a d h1, up b d h2⟩, b1.2, b2.2⟩
  have prod : ∀ x y : Int, 0 ≤ x → x < 2 ^ 200 → 0 ≤ y → y < 2 ^ 200 → x * y < 2 ^ 401 := fun x y h1 h2 h3 h4 => by
    have z : x * y ≤ 2 ^ 200 * 2 ^ 200 := Int.mul_le_mul (by omega) (by omega) h3 (by omega)
    have w : (2 : Int) ^ 200 * 2 ^ 200 < 2 ^ 401 := by decide
    omega
  have L : ∃ g t, whileD t1__law_common l1__law_common 1000 [some (.int (ab a)), some (.int (ab b))] = .nx [some (.int g), t] ∧ CFin a b g := by
    by_cases z : ab b = 0
    · rw [z] at I ⊢
      exact ⟨ab a, _, while_stop (n := 999) ctest, cfin I⟩
    · have h : 0 < ab b := by omega
      have J := I.step h
      have m2 := Int.emod_lt_of_pos (ab a) h
      obtain ⟨g, t, w1, w2⟩ := cloop 401 J m2 (prod _ _ b2.1 b2.2 J.n1 J.b1) 999 (by decide)
      refine ⟨g, t, ?_, w2⟩
      rw [while_step (n := 999) (by rw [ctest, decide_eq_false z]; rfl) (cturn h), w1]
  obtain ⟨g, t, w1, w2⟩ := L
  refine ⟨g, ?_, w2⟩
  unfold ab at w1
  simp [m__law_common, b__law_common, sPar, w1]
/-- both divisors are the same -/
theorem same {a b r p q g : Int} (f : Fin a b r p q) (c : CFin a b g) : g = r := by
  have h1 : r ∣ g := c.up r f.d1 f.d2
  have h2 : g ∣ r := by
    rw [f.e]
    exact Int.dvd_add (Int.dvd_mul_of_dvd_right c.d1) (Int.dvd_mul_of_dvd_right c.d2)
  exact Int.dvd_antisymm c.n f.n h2 h1
end Lw
set_option linter.all false
set_option maxRecDepth 100000
set_option maxHeartbeats 1000000
namespace Lw
open PySem PySem.Spec PyProof.Rows L2 DL
theorem eq2 {a b c d : Int} : eqB (.tup [.int a, .int b]) (.tup [.int c, .int d]) = some (decide (a = c) && decide (b = d)) := by
  show (if SeqAt.shaped (.tuple [.int a, .int b]) = true ∧ SeqAt.shaped (.tuple [.int c, .int d]) = true then some (PyData.eqv (.tuple [.int a, .int b]) (.tuple [.int c, .int d])) else none) = _
  rw [if_pos ⟨rfl, rfl⟩]
  simp only [PyData.eqv, PyData.eqvAll, Bool.and_true]
  rw [Bool.beq_eq_decide_eq, Bool.beq_eq_decide_eq]
theorem chk {x h s : Int} : m_check_displacement [ST x h s] = .ok .non [] := (check_displacement_at val_st).trans rfl
@[simp] theorem divmodW_int {a b : Int} : divmodW [.int a, .int b] = if 0 < b ∧ b.natAbs.log2 < 9000 then .val (.tup [.int (a / b), .int (a % b)]) else .no := rfl
/-- what conjugator answers, first and second with the same ends -/
def conj (r p q c : Int) : D := if r = 0 then (if c = 0 then ST 0 0 0 else .non) else if c % r = 0 then ST (-q * (c / r)) (p * (c / r)) 0 else .non
theorem fin_r {a b r p q : Int} (f : Fin a b r p q) (ha : Nb a) (hb : Nb b) : r < 2 ^ 200 := by
  have n := f.n
  by_cases z : a = 0
  · by_cases y : b = 0
    · have := f.e
      rw [z, y, Int.mul_zero, Int.mul_zero] at this
      omega
    · have := Nat.le_of_dvd (by omega) (Int.natAbs_dvd_natAbs.mpr f.d2)
      omega
  · have := Nat.le_of_dvd (by omega) (Int.natAbs_dvd_natAbs.mpr f.d1)
    omega
theorem conj_at {x h s t : Int} (hx : Nb x) (hh : Nb h) (hs : Nb (t - s)) : ∃ r p q, m_conjugator [ST x h s, ST x h t] = .ok (conj r p q (t - s)) [] ∧ Fin x h r p q := by
  obtain ⟨r, p, q, e, f⟩ := euclid_at hx hh
  refine ⟨r, p, q, ?_, f⟩
  have c1 := @chk x h s
  have c2 := @chk x h t
  have z1 : ∀ y : Int, cutD [D.int x, D.int h, D.int y] none (some 2) = [.int x, .int h] := fun y => rfl
  have s2 : HT.sIx 3 3 (some 2) = 2 := rfl
  have q1 : eqB (.tup [.int x, .int h]) (.tup [.int x, .int h]) = some true := eqB_self rfl
  have n := f.n
  have rb := fin_r f hx hh
  unfold conj
  by_cases c : r = 0
  · subst c
    by_cases d : t - s = 0
    · simp [m_conjugator, b_conjugator, c1, c2, z1, s2, q1, e, d]
    · simp [m_conjugator, b_conjugator, c1, c2, z1, s2, q1, e, d]
  · have rp : 0 < r := by omega
    have l := big_log rp rb
    have d1 : ((t - s) / r).natAbs ≤ (t - s).natAbs := Int.natAbs_ediv_le_natAbs _ _
    have bd := bits_of (x := (t - s) / r) (by omega) (by omega)
    have m1 : IntMulOk (-q) ((t - s) / r) := mul_bits (intBits_neg_le f.c1) bd (by decide)
    have m2 : IntMulOk p ((t - s) / r) := mul_bits f.c0 bd (by decide)
    by_cases d : (t - s) % r = 0
    · simp [m_conjugator, b_conjugator, c1, c2, z1, s2, q1, e, c, rp, l, d, m1, m2]
    · simp [m_conjugator, b_conjugator, c1, c2, z1, s2, q1, e, c, rp, l, d]
theorem conj_no {x h s a b t : Int} (hn : (decide (x = a) && decide (h = b)) = false) : m_conjugator [ST x h s, ST a b t] = .ok .non [] := by
  have c1 := @chk x h s
  have c2 := @chk a b t
  have z1 : ∀ x h y : Int, cutD [D.int x, D.int h, D.int y] none (some 2) = [.int x, .int h] := fun x h y => rfl
  have s2 : HT.sIx 3 3 (some 2) = 2 := rfl
  have q1 : eqB (.tup [.int x, .int h]) (.tup [.int a, .int b]) = some false := by rw [eq2, hn]
  simp [m_conjugator, b_conjugator, c1, c2, z1, s2, q1]
theorem right_no {x h s a b t : Int} (hx : Nb x) (hh : Nb h) (hn : (decide (x = a) && decide (h = b)) = false) : m__law_right [ST x h s, ST a b t] = .ok (.bl true) [] := by
  obtain ⟨g, e, f⟩ := common hx hh
  have c := conj_no (s := s) (t := t) hn
  have z1 : ∀ x h y : Int, cutD [D.int x, D.int h, D.int y] none (some 2) = [.int x, .int h] := fun x h y => rfl
  have s2 : HT.sIx 3 3 (some 2) = 2 := rfl
  have q1 : eqB (.tup [.int x, .int h]) (.tup [.int a, .int b]) = some false := by rw [eq2, hn]
  simp [m__law_right, b__law_right, c, e, z1, s2, q1, isNonD]
theorem joined {x h s a b c : Int} (m : IntMulOk h a) : m__law_joined [ST x h s, ST a b c] = .ok (ST (x + a) (h + b) (s + c + h * a)) [] := by
  simp [m__law_joined, b__law_joined, m]
theorem back {x h s : Int} (m : IntMulOk x h) : m__law_back [ST x h s] = .ok (ST (0 - x) (0 - h) (x * h - s)) [] := by
  simp [m__law_back, b__law_back, m]
theorem st_eq {a b c a' b' c' : Int} (h1 : a = a') (h2 : b = b') (h3 : c = c') : ST a b c = ST a' b' c' := by subst h1 h2 h3; rfl
/-- a conjugate, composed by the law and by the package -/
theorem conj_right {x h s t u v : Int} (e : t = s + (v * x - u * h)) (hu : Builtin.Int.intBits u ≤ 400000) (hv : Builtin.Int.intBits v ≤ 400000) (hx : Nb x) (hh : Nb h) :
    m__law_joined [ST u v 0, ST x h s] = .ok (ST (u + x) (v + h) (s + v * x)) [] ∧ m__law_back [ST u v 0] = .ok (ST (-u) (-v) (u * v)) [] ∧
    m__law_joined [ST (u + x) (v + h) (s + v * x), ST (-u) (-v) (u * v)] = .ok (ST x h t) [] ∧ m_is_conjugator [ST x h s, ST x h t, ST u v 0] = .ok (.bl true) [] := by
  have bx := bits_of hx.1 hx.2
  have bh := bits_of hh.1 hh.2
  have m1 : IntMulOk v x := mul_bits hv bx (by decide)
  have m2 : IntMulOk u v := mul_bits hu hv (by decide)
  have b1 := intBits_add_le hv bh
  have b2 := intBits_neg_le hu
  have m4 : IntMulOk (v + h) (-u) := mul_bits b1 b2 (by decide)
  have i4 : u + x + -u = x := by omega
  have i5 : v + h + -v = h := by omega
  have i6 : s + v * x + u * v + (v + h) * -u = t := by rw [e]; grind
  have j0 : m__law_joined [ST u v 0, ST x h s] = .ok (ST (u + x) (v + h) (s + v * x)) [] := (joined m1).trans (congrArg (fun z => FOut.ok z []) (st_eq rfl rfl (by omega)))
  have jb : m__law_back [ST u v 0] = .ok (ST (-u) (-v) (u * v)) [] := (back m2).trans (congrArg (fun z => FOut.ok z []) (st_eq (by omega) (by omega) (by omega)))
  have j : m__law_joined [ST (u + x) (v + h) (s + v * x), ST (-u) (-v) (u * v)] = .ok (ST x h t) [] := (joined m4).trans (congrArg (fun z => FOut.ok z []) (st_eq i4 i5 i6))
  have a1 : m_apply_to [ST u v 0, ST x h s] = .ok (ST (u + x) (v + h) (s + v * x)) [] := (apply_at m1).trans (congrArg (fun z => FOut.ok z []) (st_eq rfl rfl (by omega)))
  have a2 : m_apply_to [ST (u + x) (v + h) (s + v * x), ST (-u) (-v) (u * v)] = .ok (ST x h t) [] := (apply_at m4).trans (congrArg (fun z => FOut.ok z []) (st_eq i4 i5 i6))
  have iv : m_inverse [ST u v 0] = .ok (ST (-u) (-v) (u * v)) [] := by
    have c1 := @chk u v 0
    simp [m_inverse, b_inverse, c1, m2]
  have d : m_is_displacement [ST u v 0] = .ok (.bl true) [] := (is_displacement_at val_st).trans rfl
  have c1 := @chk x h s
  have c2 := @chk x h t
  exact ⟨j0, jb, j, by simp [m_is_conjugator, b_is_conjugator, c1, c2, d, a1, iv, a2, eqST]⟩
theorem right_yes {x h s t : Int} (hx : Nb x) (hh : Nb h) (hs : Nb (t - s)) : m__law_right [ST x h s, ST x h t] = .ok (.bl true) [] := by
  obtain ⟨g, e, f⟩ := common hx hh
  obtain ⟨r, p, q, c, fr⟩ := conj_at hx hh hs
  have eg := same fr f
  subst eg
  have z1 : ∀ y : Int, cutD [D.int x, D.int h, D.int y] none (some 2) = [.int x, .int h] := fun y => rfl
  have s2 : HT.sIx 3 3 (some 2) = 2 := rfl
  have q1 : eqB (.tup [.int x, .int h]) (.tup [.int x, .int h]) = some true := eqB_self rfl
  have q0 : eqB (.lst false []) (.lst false []) = some true := eqB_self (by decide +kernel)
  have n := f.n
  unfold conj at c
  by_cases z : g = 0
  · subst z
    have x0 := Int.zero_dvd.mp f.d1
    have h0 := Int.zero_dvd.mp f.d2
    rw [if_pos rfl] at c
    by_cases d : t - s = 0
    · rw [if_pos d] at c
      obtain ⟨j1, j2, j3, j4⟩ := conj_right (x := x) (h := h) (s := s) (t := t) (u := 0) (v := 0) (by omega) (by decide) (by decide) hx hh
      have ts : t = s := by omega
      subst ts
      simp at j1 j2 j3
      simp [m__law_right, b__law_right, c, e, z1, s2, q1, q0, d, isNonD, lcD, t1__law_right, e1__law_right, isTy, tyKnown, j1, j2, j3, j4, eqST]
    · rw [if_neg d] at c
      simp [m__law_right, b__law_right, c, e, z1, s2, q1, d, isNonD]
  · have gp : 0 < g := by omega
    rw [if_neg z] at c
    by_cases d : (t - s) % g = 0
    · rw [if_pos d] at c
      have dd := Int.ediv_mul_cancel (Int.dvd_of_emod_eq_zero d)
      have bd := bits_of (x := (t - s) / g) (by have := Int.natAbs_ediv_le_natAbs (t - s) g; omega) (by have := Int.natAbs_ediv_le_natAbs (t - s) g; omega)
      have fe := fr.e
      have b1 := intBits_mul_le (intBits_neg_le fr.c1) bd
      have b2 := intBits_mul_le fr.c0 bd
      generalize (t - s) / g = w at c dd b1 b2
      obtain ⟨j1, j2, j3, j4⟩ := conj_right (x := x) (h := h) (s := s) (t := t) (u := -q * w) (v := p * w) (by grind) (by omega) (by omega) hx hh
      generalize -q * w = u at c j1 j2 j3 j4
      generalize p * w = v at c j1 j2 j3 j4
      simp [m__law_right, b__law_right, c, e, z1, s2, q1, q0, d, z, gp, isNonD, lcD, t1__law_right, e1__law_right, isTy, tyKnown, j1, j2, j3, j4, eqST]
    · rw [if_neg d] at c
      simp [m__law_right, b__law_right, c, e, z1, s2, q1, d, z, gp, isNonD]
end Lw
set_option linter.all false
set_option maxRecDepth 100000
set_option maxHeartbeats 1000000
namespace Lw
open PySem PySem.Spec PyProof.Rows L2 DL
theorem ow {p : D} : Pool p → owned p = true := fun ⟨_, _, e, _⟩ => by rw [e]; rfl
theorem turn4 {x h s c : Int} {p : D} (hp : Pool p) (hx : -(2 ^ 90) < x ∧ x < 2 ^ 90) (hh : -(2 ^ 90) < h ∧ h < 2 ^ 90) (hc : 0 < c ∧ c < 2 ^ 30) {r0 r1 r7 r8 r9 r10 : Option D} :
    ∃ p' b8 b9, l1_law [r0, r1, some p, some (.int c), some (.int x), some (.int h), some (ST x h s), r7, r8, r9, r10] = .nx [r0, r1, some p', some (.int c), some (.int x), some (.int h), some (ST x h s), r7, b8, b9, r10] ∧ Pool p' := by
  obtain ⟨i1, p1, e1, h1, t1⟩ := integer hp
  obtain ⟨i2, p2, e2, h2, t2⟩ := integer h1
  obtain ⟨w3, p3, e3, h3, r3, s3⟩ := draw h2 (n := 7) (by decide) (by decide)
  obtain ⟨w4, p4, e4, h4, r4, s4⟩ := draw h3 (n := 3) (by decide) (by decide)
  obtain ⟨w5, p5, e5, h5, r5, s5⟩ := draw h4 (n := 6) (by decide) (by decide)
  obtain ⟨w6, p6, e6, h6, r6, s6⟩ := draw h5 (n := 2) (by decide) (by decide)
  unfold Sm at t1 t2
  have m : IntMulOk c i1 := mul_200 (by omega) (by omega) (by omega) (by omega)
  have bc : (c * i1).natAbs ≤ 2 ^ 30 * 10000000000000000 := by
    rw [Int.natAbs_mul]
    exact Nat.mul_le_mul (by omega) (by omega)
  obtain ⟨d, hd, d1⟩ : ∃ d : Int, atI [D.int (c * i1), .int i2, .int (w3 - 3)] w4 = some (.int d) ∧ (-(2 ^ 100) < d ∧ d < 2 ^ 100) := by
    have : w4 = 0 ∨ w4 = 1 ∨ w4 = 2 := by omega
    rcases this with rfl | rfl | rfl
    · exact ⟨_, at0, by omega⟩
    · exact ⟨_, at1, by omega⟩
    · exact ⟨_, at2, by omega⟩
  have nx : Nb x := by omega
  have nh : Nb h := by omega
  by_cases g : w5 = 0
  · subst g
    have q1 := right_no (x := x) (h := h) (s := s) (a := x + 1) (b := h) (t := s) nx nh (by rw [decide_eq_false (by omega)]; rfl)
    have q2 := right_no (x := x) (h := h) (s := s) (a := x) (b := h - 1) (t := s) nx nh (by rw [decide_eq_false (show ¬ h = h - 1 by omega)]; simp)
    have : w6 = 0 ∨ w6 = 1 := by omega
    rcases this with rfl | rfl
    · exact ⟨p6, some (.int d), some (ST (x + 1) h s), by simp [l1_law, e1, e2, e3, e4, e5, e6, m, hd, q1], h6⟩
    · exact ⟨p6, some (.int d), some (ST x (h - 1) s), by simp [l1_law, e1, e2, e3, e4, e5, e6, m, hd, q2], h6⟩
  · have q := right_yes (x := x) (h := h) (s := s) (t := s + d) nx nh (by omega)
    exact ⟨p5, some (.int d), some (ST x h (s + d)), by simp [l1_law, e1, e2, e3, e4, e5, g, m, hd, q], h5⟩
theorem loop4 {x h s c : Int} {p : D} (hp : Pool p) (hx : -(2 ^ 90) < x ∧ x < 2 ^ 90) (hh : -(2 ^ 90) < h ∧ h < 2 ^ 90) (hc : 0 < c ∧ c < 2 ^ 30) {r0 r1 r7 r8 r9 r10 : Option D} :
    ∃ p' b7 b8 b9, forD (gN [] 7) l1_law (rngD 0 4) [r0, r1, some p, some (.int c), some (.int x), some (.int h), some (ST x h s), r7, r8, r9, r10] = .nx [r0, r1, some p', some (.int c), some (.int x), some (.int h), some (ST x h s), b7, b8, b9, r10] ∧ Pool p' := by
  obtain ⟨ρ', e, p', b7, b8, b9, rfl, hp'⟩ := for_all (g := gN [] 7) (body := l1_law) (fun ρ => ∃ p' b7 b8 b9, ρ = [r0, r1, some p', some (.int c), some (.int x), some (.int h), some (ST x h s), b7, b8, b9, r10] ∧ Pool p') (rngD 0 4)
    [r0, r1, some p, some (.int c), some (.int x), some (.int h), some (ST x h s), r7, r8, r9, r10] ⟨p, r7, r8, r9, rfl, hp⟩ fun d hd ρ ⟨q, b7, b8, b9, e, hq⟩ => by
    subst e
    obtain ⟨q', c8, c9, e, hq'⟩ := turn4 (x := x) (h := h) (s := s) (c := c) (r0 := r0) (r1 := r1) (r7 := some d) (r8 := b8) (r9 := b9) (r10 := r10) hq hx hh hc
    exact ⟨[r0, r1, some q, some (.int c), some (.int x), some (.int h), some (ST x h s), some d, b8, b9, r10], by simp, _, .inl e, q', _, _, _, rfl, hq'⟩
  exact ⟨p', b7, b8, b9, e, hp'⟩
theorem refused {d e : D} (hd : Val d) (he : owned e = false) (h : stB d = false) : m__law_refused [d, e] = .ok (.bl true) [] := by
  simp [m__law_refused, b__law_refused, m_conjugator, b_conjugator, hd, hd.1.2, he, h]
theorem refused2 {x h s : Int} {d : D} (hd : Val d) (hi : stB d = false) : m__law_refused [ST x h s, d] = .ok (.bl true) [] := by
  have c1 := @chk x h s
  simp [m__law_refused, b__law_refused, m_conjugator, b_conjugator, hd, hd.1.2, hi, c1]
theorem law_turn (ns : List Int) (k : Nat) (hk : k < 1000) (a2 a3 a4 a5 a6 a7 a8 a9 a10 : Option D) : ∃ b2 b3 b4 b5 b6 b7 b8 b9 b10,
    l2_law [some (.ro (ns.map D.int)), some (.int (k : Int)), a2, a3, a4, a5, a6, a7, a8, a9, a10] = .nx [some (.ro (ns.map D.int)), some (.int (k : Int)), b2, b3, b4, b5, b6, b7, b8, b9, b10] := by
  obtain ⟨p, e0, h0⟩ := draws ns k hk
  obtain ⟨w1, p1, e1, h1, r1, s1⟩ := draw h0 (n := 30) (by decide) (by decide)
  obtain ⟨w2, p2, e2, h2, r2, s2⟩ := draw h1 (n := 4) (by decide) (by decide)
  obtain ⟨x0, p3, e3, h3, t3⟩ := integer h2
  obtain ⟨y0, p4, e4, h4, t4⟩ := integer h3
  obtain ⟨w5, p5, e5, h5, r5, s5⟩ := draw h4 (n := 4) (by decide) (by decide)
  obtain ⟨w6, p6, e6, h6, r6, s6⟩ := draw h5 (n := 4) (by decide) (by decide)
  obtain ⟨s, p7, e7, h7, t7⟩ := integer h6
  unfold Sm at t3 t4 t7
  obtain ⟨c, hc, c1, c2⟩ : ∃ c : Int, atI [D.int 1, .int 2, .int (1 + w1), .int 1000003] w2 = some (.int c) ∧ 0 < c ∧ c < 2 ^ 30 := by
    have : w2 = 0 ∨ w2 = 1 ∨ w2 = 2 ∨ w2 = 3 := by omega
    rcases this with rfl | rfl | rfl | rfl
    · exact ⟨1, at0, by decide, by decide⟩
    · exact ⟨2, at1, by decide, by decide⟩
    · exact ⟨1 + w1, at2, by omega, by omega⟩
    · exact ⟨_, at3, by decide, by decide⟩
  have mx : IntMulOk x0 c := mul_200 (by omega) (by omega) (by omega) (by omega)
  have my : IntMulOk y0 c := mul_200 (by omega) (by omega) (by omega) (by omega)
  have nb : ∀ z : Int, -10000000000000000 < z ∧ z < 10000000000000000 → -(2 ^ 90) < z * c ∧ z * c < 2 ^ 90 := fun z hz => by
    have b3 : (z * c).natAbs ≤ 10000000000000000 * 2 ^ 30 := by
      rw [Int.natAbs_mul]
      exact Nat.mul_le_mul (by omega) (by omega)
    omega
  have nx := nb x0 t3
  have ny := nb y0 t4
  have s2' : HT.sIx 3 3 (some 2) = 2 := rfl
  -- whichever the ends are
  have rest : ∀ x h : Int, (-(2 ^ 90) < x ∧ x < 2 ^ 90) → (-(2 ^ 90) < h ∧ h < 2 ^ 90) → ∃ p8 b7 b8 b9 p9 w9 d, forD (gN [] 7) l1_law (rngD 0 4) [some (.ro (ns.map D.int)), some (.int (k : Int)), some p7, some (.int c), some (.int x), some (.int h), some (ST x h s), a7, a8, a9, a10]
      = .nx [some (.ro (ns.map D.int)), some (.int (k : Int)), some p8, some (.int c), some (.int x), some (.int h), some (ST x h s), b7, b8, b9, a10] ∧ m__law_take [p8, .int 5] = .ok (.int w9) [p9] ∧
      atI [D.non, .lst false [.int x, .int h, .int s], .tup [.int x, .int h], .tup [.int x, .bl true, .int 0], .str "E"] w9 = some d ∧ owned d = false ∧ owned p8 = true ∧ m__law_refused [d, ST x h s] = .ok (.bl true) [] ∧ m__law_refused [ST x h s, d] = .ok (.bl true) [] := by
    intro x h hx hh
    obtain ⟨p8, b7, b8, b9, el, h8⟩ := loop4 (x := x) (h := h) (s := s) (c := c) (r0 := some (.ro (ns.map D.int))) (r1 := some (.int (k : Int))) (r7 := a7) (r8 := a8) (r9 := a9) (r10 := a10) h7 hx hh ⟨c1, c2⟩
    obtain ⟨w9, p9, e9, h9, r9, s9⟩ := draw h8 (n := 5) (by decide) (by decide)
    have kk : ∀ {d : D}, Kd d → (∀ ds, d ≠ .tup ds) → Val d := fun h1 h2 => ⟨h1, fun ds e => absurd e (h2 ds)⟩
    have kt : ∀ {ds : List D}, (∀ d ∈ ds, Kd d) → Val (.tup ds) := fun h1 => ⟨⟨rfl, rfl⟩, fun ds e => by cases e; exact h1⟩
    have ki : ∀ {i : Int}, Kd (.int i) := ⟨rfl, rfl⟩
    have bad : ∃ d, atI [D.non, .lst false [.int x, .int h, .int s], .tup [.int x, .int h], .tup [.int x, .bl true, .int 0], .str "E"] w9 = some d ∧ Val d ∧ stB d = false := by
      have : w9 = 0 ∨ w9 = 1 ∨ w9 = 2 ∨ w9 = 3 ∨ w9 = 4 := by omega
      rcases this with rfl | rfl | rfl | rfl | rfl
      · exact ⟨_, at0, kk ⟨rfl, rfl⟩ (fun _ e => by cases e), rfl⟩
      · exact ⟨_, at1, kk ⟨rfl, rfl⟩ (fun _ e => by cases e), rfl⟩
      · exact ⟨_, at2, kt (by simp [ki]), rfl⟩
      · exact ⟨_, at3, kt (by simp [ki]; exact ⟨rfl, rfl⟩), rfl⟩
      · exact ⟨.str "E", rfl, kk ⟨rfl, rfl⟩ (fun _ e => by cases e), rfl⟩
    obtain ⟨d, hd, vd, id⟩ := bad
    exact ⟨p8, b7, b8, b9, p9, w9, d, el, e9, hd, vd.1.2, ow h8, refused vd rfl id, refused2 vd id⟩
  have z0 : -(2 ^ 90) < (0 : Int) ∧ (0 : Int) < 2 ^ 90 := by decide
  have z1 : ∀ x h y : Int, cutD [D.int x, D.int h, D.int y] none (some 2) = [.int x, .int h] := fun x h y => rfl
  have fin : ∀ x h : Int, (-(2 ^ 90) < x ∧ x < 2 ^ 90) → (-(2 ^ 90) < h ∧ h < 2 ^ 90) → (x = if w5 = 0 then 0 else x0 * c) → (h = if w6 = 0 then 0 else y0 * c) → ∃ b2 b3 b4 b5 b6 b7 b8 b9 b10,
    l2_law [some (.ro (ns.map D.int)), some (.int (k : Int)), a2, a3, a4, a5, a6, a7, a8, a9, a10] = .nx [some (.ro (ns.map D.int)), some (.int (k : Int)), b2, b3, b4, b5, b6, b7, b8, b9, b10] := by
    intro x h hx hh ex eh
    obtain ⟨p8, b7, b8, b9, p9, w9, d, el, e9, hd, od, op, f1, f2⟩ := rest x h hx hh
    refine ⟨some p9, some (.int c), some (.int x), some (.int h), some (ST x h s), b7, b8, b9, some d, ?_⟩
    by_cases g5 : w5 = 0 <;> by_cases g6 : w6 = 0
    · rw [if_pos g5] at ex
      rw [if_pos g6] at eh
      subst g5 g6 ex eh
      simp [l2_law, sPar, e0, e1, e2, e3, e4, e5, e6, e7, hc, mx, my, el, e9, hd, od, f1, f2, z1, s2']
    · rw [if_pos g5] at ex
      rw [if_neg g6] at eh
      subst g5 ex eh
      simp [l2_law, sPar, e0, e1, e2, e3, e4, e5, e6, e7, g6, hc, mx, my, el, e9, hd, od, f1, f2, z1, s2']
    · rw [if_neg g5] at ex
      rw [if_pos g6] at eh
      subst g6 ex eh
      simp [l2_law, sPar, e0, e1, e2, e3, e4, e5, e6, e7, g5, hc, mx, my, el, e9, hd, od, f1, f2, z1, s2']
    · rw [if_neg g5] at ex
      rw [if_neg g6] at eh
      subst ex eh
      simp [l2_law, sPar, e0, e1, e2, e3, e4, e5, e6, e7, g5, g6, hc, mx, my, el, e9, hd, od, f1, f2, z1, s2']
  exact fin _ _ (by split <;> omega) (by split <;> omega) rfl rfl
theorem rng_min {ds : List D} {r : DL.Env} {n : Int} (hn : 1 ≤ n) (hn2 : n ≤ 63) :
    ∃ m : Nat, m ≤ 63 ∧ fRng1 (fCons (fCl maxD (fCons (fC (.int 1)) (fCons (fCl minD (fCons (fC (.int n)) (fCons (fCl lenD (fCons (fVar [] 0) fNil)) fNil))) fNil))) fNil) (some (.ro ds) :: r) = .ok (rngD 0 m) (some (.ro ds) :: r) true := by
  have c : ∃ m : Nat, m ≤ 63 ∧ (if (1 : Int) < (if (ds.length : Int) < n then (ds.length : Int) else n) then (if (ds.length : Int) < n then (ds.length : Int) else n) else 1) = (m : Int) := by
    refine ⟨(if (1 : Int) < (if (ds.length : Int) < n then (ds.length : Int) else n) then (if (ds.length : Int) < n then (ds.length : Int) else n) else 1).toNat, ?_, ?_⟩
    · split <;> split <;> omega
    · split <;> split <;> omega
  obtain ⟨m, m1, c⟩ := c
  refine ⟨m, m1, ?_⟩
  simp
  rw [c, if_pos (by omega)]
  simp
theorem wins : Wins m_law := by
  intro ns hl hb
  obtain ⟨m, m1, c⟩ := rng_min (ds := ns.map D.int) (r := [none, none, none, none, none, none, none, none, none, none]) (n := 8) (by decide) (by decide)
  obtain ⟨ρ', e, a1, a2, a3, a4, a5, a6, a7, a8, a9, a10, rfl⟩ : ∃ ρ', forD (gN [] 1) l2_law (rngD 0 m) [some (.ro (ns.map D.int)), none, none, none, none, none, none, none, none, none, none] = .nx ρ' ∧ ∃ a1 a2 a3 a4 a5 a6 a7 a8 a9 a10, ρ' = [some (.ro (ns.map D.int)), a1, a2, a3, a4, a5, a6, a7, a8, a9, a10] :=
    for_all (fun ρ => ∃ a1 a2 a3 a4 a5 a6 a7 a8 a9 a10, ρ = [some (.ro (ns.map D.int)), a1, a2, a3, a4, a5, a6, a7, a8, a9, a10]) _ _ ⟨_, _, _, _, _, _, _, _, _, _, rfl⟩ fun d hd ρ ⟨a1, a2, a3, a4, a5, a6, a7, a8, a9, a10, e⟩ => by
      subst e
      obtain ⟨k, hk, rfl⟩ := List.mem_map.mp hd
      rw [List.mem_range] at hk
      obtain ⟨b2, b3, b4, b5, b6, b7, b8, b9, b10, e⟩ := law_turn ns k (by omega) a2 a3 a4 a5 a6 a7 a8 a9 a10
      exact ⟨[some (.ro (ns.map D.int)), some (.int (k : Int)), a2, a3, a4, a5, a6, a7, a8, a9, a10], by simp, _, .inl e, _, _, _, _, _, _, _, _, _, _, rfl⟩
  have q1 := right_yes (x := 0) (h := 0) (s := 5) (t := 5) (by decide) (by decide) (by decide)
  have q2 : m_conjugator [ST 0 0 5, ST 0 0 6] = .ok .non [] := by
    obtain ⟨r, p, q, e, f⟩ := conj_at (x := 0) (h := 0) (s := 5) (t := 6) (by decide) (by decide) (by decide)
    have r0 : r = 0 := by
      have := f.e
      rw [Int.mul_zero, Int.mul_zero] at this
      omega
    subst r0
    rw [e]
    rfl
  unfold m_law b_law
  simp [c, e, q1, q2, isNonD, -fRng1_ap]
end Lw
set_option Elab.async false
set_option linter.all false
set_option maxRecDepth 100000
set_option maxHeartbeats 4000000
namespace Lw
open PySem PySem.Spec PyProof.Rows L2 DL
/-! ### the walk -/
structure FT (K : PySem.W.Frag) (mg : Str → Option Value) (x : Str) (st : Stmt) (ps : List Str) (f : Addr) (fd : FuncData) : Prop where
  fn : Fun K x x st f fd
  at' : mg x = some (.ref f)
  bd : Binds K fd ps []
theorem FT.kp {K : PySem.W.Frag} {mg : Str → Option Value} {x : Str} {st : Stmt} {ps : List Str} {f : Addr} {fd : FuncData} (T : FT K mg x st ps f fd) : PySem.W.keepIn K (.ref f) = true := T.fn.kp
structure FTD (K : PySem.W.Frag) (mg : Str → Option Value) (x : Str) (st : Stmt) (dvs : List V) (f : Addr) (fd : FuncData) : Prop where
  fn : FunD K x x (defArgs st) (defBody st) (defScope st) dvs [] f fd
  at' : mg x = some (.ref f)
theorem FTD.kp {K : PySem.W.Frag} {mg : Str → Option Value} {x : Str} {st : Stmt} {dvs : List V} {f : Addr} {fd : FuncData} (T : FTD K mg x st dvs f fd) : PySem.W.keepIn K (.ref f) = true := T.fn.kp
structure Txt (K : PySem.W.Frag) (mg : Str → Option Value) (a : Nat → Addr) (fd : Nat → FuncData) (c : Nat → Addr) : Prop where
  f0 : FT K mg "is_integer" s_is_integer ["value"] (a 0) (fd 0)
  f1 : FT K mg "is_state" s_is_state ["value"] (a 1) (fd 1)
  f2 : FT K mg "is_displacement" s_is_displacement ["value"] (a 2) (fd 2)
  f3 : FT K mg "check_displacement" s_check_displacement ["value"] (a 3) (fd 3)
  f4 : FT K mg "apply_to" s_apply_to ["start", "displacement"] (a 4) (fd 4)
  f5 : FT K mg "inverse" s_inverse ["displacement"] (a 5) (fd 5)
  f6 : FT K mg "euclid" s_euclid ["first", "second"] (a 6) (fd 6)
  f7 : FT K mg "conjugator" s_conjugator ["first", "second"] (a 7) (fd 7)
  f8 : FT K mg "is_conjugator" s_is_conjugator ["first", "second", "value"] (a 8) (fd 8)
  f9 : FT K mg "_law_pool" s__law_pool ["_law_script", "_law_k"] (a 9) (fd 9)
  f10 : FT K mg "_law_take" s__law_take ["_law_pool_here", "_law_bound"] (a 10) (fd 10)
  f11 : FT K mg "_law_integer" s__law_integer ["_law_pool_here"] (a 11) (fd 11)
  f12 : FT K mg "_law_common" s__law_common ["_law_one", "_law_other"] (a 12) (fd 12)
  f13 : FT K mg "_law_joined" s__law_joined ["_law_one", "_law_later"] (a 13) (fd 13)
  f14 : FT K mg "_law_back" s__law_back ["_law_one"] (a 14) (fd 14)
  f15 : FT K mg "_law_refused" s__law_refused ["_law_first", "_law_second"] (a 15) (fd 15)
  f16 : FT K mg "_law_right" s__law_right ["_law_first", "_law_second"] (a 16) (fd 16)
  f17 : FT K mg "law" s_law ["_law_script"] (a 17) (fd 17)
  n_bool : mg "bool" = none
  n_isinstance : mg "isinstance" = none
  n_int : mg "int" = none
  n_all : mg "all" = none
  n_len : mg "len" = none
  n_tuple : mg "tuple" = none
  n_zip : mg "zip" = none
  n_abs : mg "abs" = none
  n_divmod : mg "divmod" = none
  n_min : mg "min" = none
  n_max : mg "max" = none
  n_range : mg "range" = none
  n_list : mg "list" = none
  c_InvalidDisplacement : Cls K mg "InvalidDisplacement" (c 0)
  x_InvalidDisplacement : PySem.W.excIn K (c 0) [.type "ValueError", .type "Exception", .type "BaseException", .type "object"] "ValueError.__new__" = true
  s_InvalidDisplacement_InvalidDisplacement : PySem.W.subIn K (.ref (c 0)) (.ref (c 0)) = some true
section
variable {P : Program} {w : World} {K : PySem.W.Frag} {mg : Str → Option Value} {base : Heap} {a : Nat → Addr} {fd : Nat → FuncData} {c : Nat → Addr}
theorem ok_is_integer (T : Txt K mg a fd c) : FnOk P w K mg base (L2.CX P w) 1 (a 0) (fd 0) ["value"] (spOf K 0 1 m_is_integer) := by
  have nd := (sc_is_integer).nd
  refine fn_g (nb := 0) ["value"] ["value"] b_is_integer T.f0.fn sc_is_integer rfl rfl rfl (by decide) fun cdv A outer s H E hr => ?_
  have hu := hr.units
  have hu5 := hu65 hr
  exact ⟨_, dss_one (ds_ret ((d_and (d_cb cr_isiA isi_v (by rfl) T.n_isinstance bt_isinstance (da_cons (dv 0) (da_cons (d_type (by rfl) T.n_int bt_int) (da_nil)))) (d_one (d_not (d_cb cr_isiA isi_v (by rfl) T.n_isinstance bt_isinstance (da_cons (dv 0) (da_cons (d_type (by rfl) T.n_bool bt_bool) (da_nil))))))).o))⟩
theorem ok_is_state (T : Txt K mg a fd c) : FnOk P w K mg base (L2.CX P w) 2 (a 1) (fd 1) ["value"] (spOf K 0 1 m_is_state) := by
  have nd := (sc_is_state).nd
  refine fn_g (nb := 0) ["value", "item"] ["value"] b_is_state T.f1.fn sc_is_state rfl rfl rfl (by decide) fun cdv A outer s H E hr => ?_
  have hu := hr.units
  have hu5 := hu65 hr
  exact ⟨_, dss_one (ds_ret ((d_and (d_cb cr_isiA isi_v (by rfl) T.n_isinstance bt_isinstance (da_cons (dv 0) (da_cons (d_type (by rfl) T.n_tuple bt_tuple) (da_nil)))) (d_and (d_cmp (op_eqD hu) eq_v (d_cb call_len len_v (by rfl) T.n_len bt_len (da_cons (dv 0) (da_nil))) (d_int)) (d_one (d_cb (cr_all rfl) all_v (by rfl) T.n_all bt_all (da_cons (DO.z (o_lcx (gName 1) rfl nd (di_any (dv 0)) (own := [("item", 1)]) (blkOk_by (by rfl)) (fun _ _ _ _ _ => dk_name (dg_name (i := 1) nd (by rfl)) (by decide)) (fun _ _ _ _ _ => ⟨_, dts_nil⟩) (fun _ _ _ _ _ => ⟨_, DO.z (o_call (ok_is_integer T) hr takes_none5 T.f0.at' T.f0.kp T.f0.bd .nil .nil (db_of (da_cons (dv 1) (da_nil))))⟩))) (da_nil)))))).o))⟩
theorem ok_is_displacement (T : Txt K mg a fd c) : FnOk P w K mg base (L2.CX P w) 3 (a 2) (fd 2) ["value"] (spOf K 0 1 m_is_displacement) := by
  have nd := (sc_is_displacement).nd
  refine fn_g (nb := 0) ["value"] ["value"] b_is_displacement T.f2.fn sc_is_displacement rfl rfl rfl (by decide) fun cdv A outer s H E hr => ?_
  have hu := hr.units
  have hu5 := hu65 hr
  exact ⟨_, dss_one (ds_ret (o_call (ok_is_state T) hr (takes_of rfl rfl rfl rfl) T.f1.at' T.f1.kp T.f1.bd .nil .nil (db_of (da_cons (dv 0) (da_nil)))))⟩
theorem ok_check_displacement (T : Txt K mg a fd c) : FnOk P w K mg base (L2.CX P w) 4 (a 3) (fd 3) ["value"] (spOf K 0 1 m_check_displacement) := by
  have nd := (sc_check_displacement).nd
  refine fn_g (nb := 0) ["value"] ["value"] b_check_displacement T.f3.fn sc_check_displacement rfl rfl rfl (by decide) fun cdv A outer s H E hr => ?_
  have hu := hr.units
  have hu5 := hu65 hr
  exact ⟨_, dss_one (ds_if (t_not (t_tru (DO.z (o_call (ok_is_displacement T) hr (takes_of rfl rfl rfl rfl) T.f2.at' T.f2.kp T.f2.bd .nil .nil (db_of (da_cons (dv 0) (da_nil))))))) (dss_one (ds_raise rfl (takes_of rfl rfl rfl rfl) PySem.F.excBase_ValueError T.c_InvalidDisplacement T.x_InvalidDisplacement (by rfl))) (dss_nil))⟩
theorem ok_apply_to (T : Txt K mg a fd c) : FnOk P w K mg base (L2.CX P w) 1 (a 4) (fd 4) ["start", "displacement"] (spOf K 0 2 m_apply_to) := by
  have nd := (sc_apply_to).nd
  refine fn_g (nb := 0) ["start", "displacement", "total"] ["start", "displacement"] b_apply_to T.f4.fn sc_apply_to rfl rfl rfl (by decide) fun cdv A outer s H E hr => ?_
  have hu := hr.units
  have hu5 := hu65 hr
  exact ⟨_, dss_cons (ds_set 2 nd (o_op op_addA add_v (d_op op_addA add_v (d_ix ix_seq ix_v (dv 0) (d_int)) (d_ix ix_seq ix_v (dv 1) (d_int))) (d_op op_mulA mul_v (d_ix ix_seq ix_v (dv 0) (d_int)) (d_ix ix_seq ix_v (dv 1) (d_int)))))
 (dss_one (ds_ret ((d_tup (da_cons (d_op op_addA add_v (d_ix ix_seq ix_v (dv 0) (d_int)) (d_ix ix_seq ix_v (dv 1) (d_int))) (da_cons (d_op op_addA add_v (d_ix ix_seq ix_v (dv 0) (d_int)) (d_ix ix_seq ix_v (dv 1) (d_int))) (da_cons (dv 2) (da_nil))))).o)))⟩
theorem ok_inverse (T : Txt K mg a fd c) : FnOk P w K mg base (L2.CX P w) 5 (a 5) (fd 5) ["displacement"] (spOf K 0 1 m_inverse) := by
  have nd := (sc_inverse).nd
  refine fn_g (nb := 0) ["displacement", "x", "h", "s"] ["displacement"] b_inverse T.f5.fn sc_inverse rfl rfl rfl (by decide) fun cdv A outer s H E hr => ?_
  have hu := hr.units
  have hu5 := hu65 hr
  exact ⟨_, dss_cons (ds_expr (o_call (ok_check_displacement T) hr (takes_of rfl rfl rfl rfl) T.f3.at' T.f3.kp T.f3.bd .nil .nil (db_of (da_cons (dv 0) (da_nil)))))
 (dss_cons (ds_asg ((dv 0).o) (dg_tup rfl (dgs_cons (dg_name (i := 1) nd (by rfl)) (dgs_cons (dg_name (i := 2) nd (by rfl)) (dgs_cons (dg_name (i := 3) nd (by rfl)) (dgs_nil))))))
 (dss_one (ds_ret ((d_tup (da_cons (d_un un_neg neg_v (dv 1)) (da_cons (d_un un_neg neg_v (dv 2)) (da_cons (d_op op_sub sub_v (d_op op_mulA mul_v (dv 1) (dv 2)) (dv 3)) (da_nil))))).o))))⟩
theorem ok_euclid (T : Txt K mg a fd c) : FnOk P w K mg base (L2.CX P w) 1 (a 6) (fd 6) ["first", "second"] (spOf K 0 2 m_euclid) := by
  have nd := (sc_euclid).nd
  refine fn_g (nb := 0) ["first", "second", "left", "right", "quotient", "rest", "one", "other"] ["first", "second"] b_euclid T.f6.fn sc_euclid rfl rfl rfl (by decide) fun cdv A outer s H E hr => ?_
  have hu := hr.units
  have hu5 := hu65 hr
  exact ⟨_, dss_cons (ds_set 2 nd ((d_tup (da_cons (d_cb call_abs abs_v (by rfl) T.n_abs bt_abs (da_cons (dv 0) (da_nil))) (da_cons (d_if (t_cmp op_ge ge_v (dv 0) (d_int)) (d_int) (d_un un_neg neg_v (d_int))) (da_cons (d_int) (da_nil))))).o))
 (dss_cons (ds_set 3 nd ((d_tup (da_cons (d_cb call_abs abs_v (by rfl) T.n_abs bt_abs (da_cons (dv 1) (da_nil))) (da_cons (d_int) (da_cons (d_if (t_cmp op_ge ge_v (dv 1) (d_int)) (d_int) (d_un un_neg neg_v (d_int))) (da_nil))))).o))
 (dss_cons (ds_while 1000 (passes_of rfl) (t_cmp (op_neD hu) ne_v (d_ix ix_seq ix_v (dv 3) (d_int)) (d_int)) (dss_cons (ds_set 4 nd ((d_op op_fdivW fdiv_v (d_ix ix_seq ix_v (dv 2) (d_int)) (d_ix ix_seq ix_v (dv 3) (d_int))).o))
 (dss_cons (ds_set 5 nd ((d_ct call_tuple_of tuple_v (by rfl) T.n_tuple bt_tuple (da_cons (DO.z (o_lcx (gTup K 2 (gCons (gName 6) (gCons (gName 7) (gNil)))) rfl nd (di_zip (by rfl) T.n_zip (da_cons (dv 2) (da_cons (dv 3) (da_nil)))) (own := [("one", 6), ("other", 7)]) (blkOk_by (by rfl)) (fun _ _ _ _ _ => dk_tup rfl (dks_cons (dk_name (dg_name (i := 6) nd (by rfl)) (by decide)) (dks_cons (dk_name (dg_name (i := 7) nd (by rfl)) (by decide)) (dks_nil)))) (fun _ _ _ _ _ => ⟨_, dts_nil⟩) (fun _ _ _ _ _ => ⟨_, d_op op_sub sub_v (dv 6) (d_op op_mulA mul_v (dv 4) (dv 7))⟩))) (da_nil))).o))
 (dss_one (ds_par 2 3 (da_cons (dv 3) (da_cons (dv 5) (da_nil))) (fun p => ps_par (by rfl) nd (by rfl) (by rfl) (by decide) (by rfl) (by rfl) p (by rfl)))))))
 (dss_one (ds_ret (dm 2)))))⟩
theorem ok_conjugator (T : Txt K mg a fd c) : FnOk P w K mg base (L2.CX P w) 5 (a 7) (fd 7) ["first", "second"] (spOf K 0 2 m_conjugator) := by
  have nd := (sc_conjugator).nd
  refine fn_g (nb := 0) ["first", "second", "change", "divisor", "p", "q", "quotient", "rest"] ["first", "second"] b_conjugator T.f7.fn sc_conjugator rfl rfl rfl (by decide) fun cdv A outer s H E hr => ?_
  have hu := hr.units
  have hu5 := hu65 hr
  exact ⟨_, dss_cons (ds_expr (o_call (ok_check_displacement T) hr (takes_of rfl rfl rfl rfl) T.f3.at' T.f3.kp T.f3.bd .nil .nil (db_of (da_cons (dv 0) (da_nil)))))
 (dss_cons (ds_expr (o_call (ok_check_displacement T) hr (takes_of rfl rfl rfl rfl) T.f3.at' T.f3.kp T.f3.bd .nil .nil (db_of (da_cons (dv 1) (da_nil)))))
 (dss_cons (ds_if (t_cmp (op_neD hu) ne_v (d_sl (dv 0) (dp_none) (dp_some (d_int))) (d_sl (dv 1) (dp_none) (dp_some (d_int)))) (dss_one (ds_ret ((d_non).o))) (dss_nil))
 (dss_cons (ds_set 2 nd ((d_op op_sub sub_v (d_ix ix_seq ix_v (dv 1) (d_int)) (d_ix ix_seq ix_v (dv 0) (d_int))).o))
 (dss_cons (ds_asg (o_call (ok_euclid T) (hr.mono (by decide)) (takes_of rfl rfl rfl rfl) T.f6.at' T.f6.kp T.f6.bd .nil .nil (db_of (da_cons (d_ix ix_seq ix_v (dv 0) (d_int)) (da_cons (d_ix ix_seq ix_v (dv 0) (d_int)) (da_nil))))) (dg_tup rfl (dgs_cons (dg_name (i := 3) nd (by rfl)) (dgs_cons (dg_name (i := 4) nd (by rfl)) (dgs_cons (dg_name (i := 5) nd (by rfl)) (dgs_nil))))))
 (dss_cons (ds_if (t_cmp (op_eqD hu) eq_v (dv 3) (d_int)) (dss_one (ds_ret (o_if (t_cmp (op_eqD hu) eq_v (dv 2) (d_int)) ((d_tup (da_cons (d_int) (da_cons (d_int) (da_cons (d_int) (da_nil))))).o) ((d_non).o)))) (dss_nil))
 (dss_cons (ds_asg ((d_cb call_divmodW divmodW_v (by rfl) T.n_divmod bt_divmod (da_cons (dv 2) (da_cons (dv 3) (da_nil)))).o) (dg_tup rfl (dgs_cons (dg_name (i := 6) nd (by rfl)) (dgs_cons (dg_name (i := 7) nd (by rfl)) (dgs_nil)))))
 (dss_one (ds_ret (o_if (t_cmp (op_neD hu) ne_v (dv 7) (d_int)) ((d_non).o) ((d_tup (da_cons (d_op op_mulA mul_v (d_un un_neg neg_v (dv 5)) (dv 6)) (da_cons (d_op op_mulA mul_v (dv 4) (dv 6)) (da_cons (d_int) (da_nil))))).o))))))))))⟩
theorem ok_is_conjugator (T : Txt K mg a fd c) : FnOk P w K mg base (L2.CX P w) 6 (a 8) (fd 8) ["first", "second", "value"] (spOf K 0 3 m_is_conjugator) := by
  have nd := (sc_is_conjugator).nd
  refine fn_g (nb := 0) ["first", "second", "value"] ["first", "second", "value"] b_is_conjugator T.f8.fn sc_is_conjugator rfl rfl rfl (by decide) fun cdv A outer s H E hr => ?_
  have hu := hr.units
  have hu5 := hu65 hr
  exact ⟨_, dss_cons (ds_expr (o_call (ok_check_displacement T) (hr.mono (by decide)) (takes_of rfl rfl rfl rfl) T.f3.at' T.f3.kp T.f3.bd .nil .nil (db_of (da_cons (dv 0) (da_nil)))))
 (dss_cons (ds_expr (o_call (ok_check_displacement T) (hr.mono (by decide)) (takes_of rfl rfl rfl rfl) T.f3.at' T.f3.kp T.f3.bd .nil .nil (db_of (da_cons (dv 1) (da_nil)))))
 (dss_one (ds_ret ((d_and (DO.z (o_call (ok_is_displacement T) (hr.mono (by decide)) (takes_of rfl rfl rfl rfl) T.f2.at' T.f2.kp T.f2.bd .nil .nil (db_of (da_cons (dv 2) (da_nil))))) (d_one (d_cmp (op_eqD hu) eq_v (DO.z (o_call (ok_apply_to T) (hr.mono (by decide)) (takes_of rfl rfl rfl rfl) T.f4.at' T.f4.kp T.f4.bd .nil .nil (db_of (da_cons (DO.z (o_call (ok_apply_to T) (hr.mono (by decide)) (takes_of rfl rfl rfl rfl) T.f4.at' T.f4.kp T.f4.bd .nil .nil (db_of (da_cons (dv 2) (da_cons (dv 0) (da_nil)))))) (da_cons (DO.z (o_call (ok_inverse T) hr (takes_of rfl rfl rfl rfl) T.f5.at' T.f5.kp T.f5.bd .nil .nil (db_of (da_cons (dv 2) (da_nil))))) (da_nil)))))) (dv 1)))).o))))⟩
theorem ok__law_pool (T : Txt K mg a fd c) : FnOk P w K mg base (L2.CX P w) 1 (a 9) (fd 9) ["_law_script", "_law_k"] (spOf K 0 2 m__law_pool) := by
  have nd := (sc__law_pool).nd
  refine fn_g (nb := 0) ["_law_script", "_law_k", "_law_cell", "_law_seed"] ["_law_script", "_law_k"] b__law_pool T.f9.fn sc__law_pool rfl rfl rfl (by decide) fun cdv A outer s H E hr => ?_
  have hu := hr.units
  have hu5 := hu65 hr
  exact ⟨_, dss_cons (ds_set 2 nd ((d_int).o))
 (dss_cons (ds_if (t_cmp (op_neD hu) ne_v (dv 0) (d_lst (da_nil))) (dss_one (ds_set 2 nd ((d_ix ix_seq ix_v (dv 0) (d_op op_mod mod_v (dv 1) (d_cb call_len len_v (by rfl) T.n_len bt_len (da_cons (dv 0) (da_nil))))).o))) (dss_nil))
 (dss_cons (ds_if (t_cmp op_ge ge_v (dv 1) (d_cb call_len len_v (by rfl) T.n_len bt_len (da_cons (dv 0) (da_nil)))) (dss_one (ds_set 2 nd ((d_op op_mod mod_v (dv 2) (d_int)).o))) (dss_nil))
 (dss_cons (ds_set 3 nd ((d_op op_mod mod_v (d_op op_mulA mul_v (d_op op_addA add_v (d_op op_addA add_v (d_op op_mod mod_v (dv 2) (d_int)) (d_op op_mulA mul_v (d_int) (dv 1))) (d_int)) (d_int)) (d_int)).o))
 (dss_one (ds_ret (o_lst (da_cons (d_op op_mulA mul_v (dv 2) (d_ct call_int1 int_v (by rfl) T.n_int bt_int (da_cons (d_cmp op_ge ge_v (dv 2) (d_op op_pow pow_v (d_int) (d_int))) (da_nil)))) (da_cons (dv 3) (da_nil)))))))))⟩
theorem ok__law_take (T : Txt K mg a fd c) : FnOk P w K mg base (L2.CX P w) 1 (a 10) (fd 10) ["_law_pool_here", "_law_bound"] (spOf K 1 2 m__law_take) := by
  have nd := (sc__law_take).nd
  refine fn_g (nb := 1) ["_law_pool_here", "_law_bound", "_law_digit"] ["_law_pool_here", "_law_bound"] b__law_take T.f10.fn sc__law_take rfl rfl rfl (by decide) fun cdv A outer s H E hr => ?_
  have hu := hr.units
  have hu5 := hu65 hr
  exact ⟨_, dss_cons (ds_if (t_cmp op_gt gt_v (d_ixL 0 (d_int)) (d_int)) (dss_cons (ds_set 2 nd ((d_op op_mod mod_v (d_ixL 0 (d_int)) (dv 1)).o))
 (dss_cons (ds_setix 0 (d_op op_fdivW fdiv_v (d_ixL 0 (d_int)) (dv 1)) (d_int))
 (dss_one (ds_ret (dm 2))))) (dss_nil))
 (dss_cons (ds_setix 0 (d_op op_mod mod_v (d_op op_addA add_v (d_op op_mulA mul_v (d_ixL 0 (d_int)) (d_int)) (d_int)) (d_int)) (d_int))
 (dss_one (ds_ret ((d_op op_mod mod_v (d_op op_fdivW fdiv_v (d_op op_mod mod_v (d_op op_mulA mul_v (d_ixL 0 (d_int)) (d_ixL 0 (d_int))) (d_int)) (d_int)) (dv 1)).o))))⟩
theorem ok__law_integer (T : Txt K mg a fd c) : FnOk P w K mg base (L2.CX P w) 2 (a 11) (fd 11) ["_law_pool_here"] (spOf K 1 1 m__law_integer) := by
  have nd := (sc__law_integer).nd
  refine fn_g (nb := 1) ["_law_pool_here", "_law_way"] ["_law_pool_here"] b__law_integer T.f11.fn sc__law_integer rfl rfl rfl (by decide) fun cdv A outer s H E hr => ?_
  have hu := hr.units
  have hu5 := hu65 hr
  exact ⟨_, dss_cons (ds_set 1 nd (o_call (ok__law_take T) hr (takes_of rfl rfl rfl rfl) T.f10.at' T.f10.kp T.f10.bd .nil .nil (db_cons 0 (db_of (da_cons (d_int) (da_nil))))))
 (dss_cons (ds_if (t_cmp op_ltA lt_v (dv 1) (d_int)) (dss_one (ds_ret ((d_op op_sub sub_v (DO.z (o_call (ok__law_take T) hr (takes_of rfl rfl rfl rfl) T.f10.at' T.f10.kp T.f10.bd .nil .nil (db_cons 0 (db_of (da_cons (d_int) (da_nil)))))) (d_int)).o))) (dss_nil))
 (dss_cons (ds_if (t_cmp (op_eqD hu) eq_v (dv 1) (d_int)) (dss_one (ds_ret ((d_op op_sub sub_v (DO.z (o_call (ok__law_take T) hr (takes_of rfl rfl rfl rfl) T.f10.at' T.f10.kp T.f10.bd .nil .nil (db_cons 0 (db_of (da_cons (d_int) (da_nil)))))) (d_int)).o))) (dss_nil))
 (dss_one (ds_ret (o_op op_mulA mul_v (d_op op_addA add_v (d_op op_mulA mul_v (DO.z (o_call (ok__law_take T) hr (takes_of rfl rfl rfl rfl) T.f10.at' T.f10.kp T.f10.bd .nil .nil (db_cons 0 (db_of (da_cons (d_op op_pow pow_v (d_int) (d_int)) (da_nil)))))) (d_op op_pow pow_v (d_int) (d_int))) (DO.z (o_call (ok__law_take T) hr (takes_of rfl rfl rfl rfl) T.f10.at' T.f10.kp T.f10.bd .nil .nil (db_cons 0 (db_of (da_cons (d_op op_pow pow_v (d_int) (d_int)) (da_nil))))))) (d_ix ix_seq ix_v (d_lst (da_cons (d_int) (da_cons (d_un un_neg neg_v (d_int)) (da_nil)))) (DO.z (o_call (ok__law_take T) hr (takes_of rfl rfl rfl rfl) T.f10.at' T.f10.kp T.f10.bd .nil .nil (db_cons 0 (db_of (da_cons (d_int) (da_nil))))))))))))⟩
theorem ok__law_common (T : Txt K mg a fd c) : FnOk P w K mg base (L2.CX P w) 1 (a 12) (fd 12) ["_law_one", "_law_other"] (spOf K 0 2 m__law_common) := by
  have nd := (sc__law_common).nd
  refine fn_g (nb := 0) ["_law_one", "_law_other"] ["_law_one", "_law_other"] b__law_common T.f12.fn sc__law_common rfl rfl rfl (by decide) fun cdv A outer s H E hr => ?_
  have hu := hr.units
  have hu5 := hu65 hr
  exact ⟨_, dss_cons (ds_par 0 1 (da_cons (d_cb call_abs abs_v (by rfl) T.n_abs bt_abs (da_cons (dv 0) (da_nil))) (da_cons (d_cb call_abs abs_v (by rfl) T.n_abs bt_abs (da_cons (dv 1) (da_nil))) (da_nil))) (fun p => ps_par (by rfl) nd (by rfl) (by rfl) (by decide) (by rfl) (by rfl) p (by rfl)))
 (dss_cons (ds_while 1000 (passes_of rfl) (t_cmp (op_neD hu) ne_v (dv 1) (d_int)) (dss_one (ds_par 0 1 (da_cons (dv 1) (da_cons (d_op op_mod mod_v (dv 0) (dv 1)) (da_nil))) (fun p => ps_par (by rfl) nd (by rfl) (by rfl) (by decide) (by rfl) (by rfl) p (by rfl)))))
 (dss_one (ds_ret (dm 0))))⟩
theorem ok__law_joined (T : Txt K mg a fd c) : FnOk P w K mg base (L2.CX P w) 1 (a 13) (fd 13) ["_law_one", "_law_later"] (spOf K 0 2 m__law_joined) := by
  have nd := (sc__law_joined).nd
  refine fn_g (nb := 0) ["_law_one", "_law_later"] ["_law_one", "_law_later"] b__law_joined T.f13.fn sc__law_joined rfl rfl rfl (by decide) fun cdv A outer s H E hr => ?_
  have hu := hr.units
  have hu5 := hu65 hr
  exact ⟨_, dss_one (ds_ret ((d_tup (da_cons (d_op op_addA add_v (d_ix ix_seq ix_v (dv 0) (d_int)) (d_ix ix_seq ix_v (dv 1) (d_int))) (da_cons (d_op op_addA add_v (d_ix ix_seq ix_v (dv 0) (d_int)) (d_ix ix_seq ix_v (dv 1) (d_int))) (da_cons (d_op op_addA add_v (d_op op_addA add_v (d_ix ix_seq ix_v (dv 0) (d_int)) (d_ix ix_seq ix_v (dv 1) (d_int))) (d_op op_mulA mul_v (d_ix ix_seq ix_v (dv 0) (d_int)) (d_ix ix_seq ix_v (dv 1) (d_int)))) (da_nil))))).o))⟩
theorem ok__law_back (T : Txt K mg a fd c) : FnOk P w K mg base (L2.CX P w) 1 (a 14) (fd 14) ["_law_one"] (spOf K 0 1 m__law_back) := by
  have nd := (sc__law_back).nd
  refine fn_g (nb := 0) ["_law_one"] ["_law_one"] b__law_back T.f14.fn sc__law_back rfl rfl rfl (by decide) fun cdv A outer s H E hr => ?_
  have hu := hr.units
  have hu5 := hu65 hr
  exact ⟨_, dss_one (ds_ret ((d_tup (da_cons (d_op op_sub sub_v (d_int) (d_ix ix_seq ix_v (dv 0) (d_int))) (da_cons (d_op op_sub sub_v (d_int) (d_ix ix_seq ix_v (dv 0) (d_int))) (da_cons (d_op op_sub sub_v (d_op op_mulA mul_v (d_ix ix_seq ix_v (dv 0) (d_int)) (d_ix ix_seq ix_v (dv 0) (d_int))) (d_ix ix_seq ix_v (dv 0) (d_int))) (da_nil))))).o))⟩
theorem ok__law_refused (T : Txt K mg a fd c) : FnOk P w K mg base (L2.CX P w) 6 (a 15) (fd 15) ["_law_first", "_law_second"] (spOf K 0 2 m__law_refused) := by
  have nd := (sc__law_refused).nd
  refine fn_g (nb := 0) ["_law_first", "_law_second"] ["_law_first", "_law_second"] b__law_refused T.f15.fn sc__law_refused rfl rfl rfl (by decide) fun cdv A outer s H E hr => ?_
  have hu := hr.units
  have hu5 := hu65 hr
  exact ⟨_, dss_cons (ds_try rfl rfl (takes_of rfl rfl rfl rfl) (fun _ _ _ tk po => ⟨_, dss_one (ds_expr (o_call (ok_conjugator T) hr tk T.f7.at' T.f7.kp T.f7.bd .nil .nil (db_of (da_cons (dv 0) (da_cons (dv 1) (da_nil))))))⟩) (DHs.cons ⟨by rfl, by decide, .inl T.c_InvalidDisplacement.at'⟩ (exm_cons (T.c_InvalidDisplacement.exm T.c_InvalidDisplacement T.s_InvalidDisplacement_InvalidDisplacement) (exm_nil)) (exm_nil) (fun _ _ _ => ⟨_, dss_one (ds_ret ((d_bl).o))⟩) (DHs.nil)))
 (dss_one (ds_ret ((d_bl).o)))⟩
theorem ok__law_right (T : Txt K mg a fd c) : FnOk P w K mg base (L2.CX P w) 7 (a 16) (fd 16) ["_law_first", "_law_second"] (spOf K 0 2 m__law_right) := by
  have nd := (sc__law_right).nd
  refine fn_g (nb := 0) ["_law_first", "_law_second", "_law_found", "_law_common_here", "_law_change", "_law_is_due", "_law_item"] ["_law_first", "_law_second"] b__law_right T.f16.fn sc__law_right rfl rfl rfl (by decide) fun cdv A outer s H E hr => ?_
  have hu := hr.units
  have hu5 := hu65 hr
  exact ⟨_, dss_cons (ds_set 2 nd (o_call (ok_conjugator T) (hr.mono (by decide)) (takes_of rfl rfl rfl rfl) T.f7.at' T.f7.kp T.f7.bd .nil .nil (db_of (da_cons (dv 0) (da_cons (dv 1) (da_nil))))))
 (dss_cons (ds_set 3 nd (o_call (ok__law_common T) (hr.mono (by decide)) (takes_of rfl rfl rfl rfl) T.f12.at' T.f12.kp T.f12.bd .nil .nil (db_of (da_cons (d_ix ix_seq ix_v (dv 0) (d_int)) (da_cons (d_ix ix_seq ix_v (dv 0) (d_int)) (da_nil))))))
 (dss_cons (ds_set 4 nd ((d_op op_sub sub_v (d_ix ix_seq ix_v (dv 1) (d_int)) (d_ix ix_seq ix_v (dv 0) (d_int))).o))
 (dss_cons (ds_set 5 nd ((d_and (d_cmp (op_eqD hu) eq_v (d_sl (dv 0) (dp_none) (dp_some (d_int))) (d_sl (dv 1) (dp_none) (dp_some (d_int)))) (d_one (d_if (t_cmp (op_eqD hu) eq_v (dv 3) (d_int)) (d_cmp (op_eqD hu) eq_v (dv 4) (d_int)) (d_cmp (op_eqD hu) eq_v (d_op op_mod mod_v (dv 4) (dv 3)) (d_int))))).o))
 (dss_cons (ds_if (t_not (t_tru (dv 5))) (dss_one (ds_ret ((d_cmp op_isA is_v (dv 2) (d_non)).o))) (dss_nil))
 (dss_cons (ds_if (t_w (w_or (t_not (t_tru (d_cb cr_isiA isi_v (by rfl) T.n_isinstance bt_isinstance (da_cons (dv 2) (da_cons (d_type (by rfl) T.n_tuple bt_tuple) (da_nil)))))) (w_or (t_cmp (op_neD hu) ne_v (d_cb call_len len_v (by rfl) T.n_len bt_len (da_cons (dv 2) (da_nil))) (d_int)) (w_or1 (t_cmp (op_neD hu) ne_v (d_ix ix_seq ix_v (dv 2) (d_int)) (d_int)))))) (dss_one (ds_ret ((d_bl).o))) (dss_nil))
 (dss_cons (ds_if (t_cmp (op_neD hu) ne_v (DO.z (o_lcx (gName 6) rfl nd (di_any (dv 2)) (own := [("_law_item", 6)]) (blkOk_by (by rfl)) (fun _ _ _ _ _ => dk_name (dg_name (i := 6) nd (by rfl)) (by decide)) (fun _ _ _ _ _ => ⟨_, dts_one (t_w (w_or (t_not (t_tru (d_cb cr_isiA isi_v (by rfl) T.n_isinstance bt_isinstance (da_cons (dv 6) (da_cons (d_type (by rfl) T.n_int bt_int) (da_nil)))))) (w_or1 (t_tru (d_cb cr_isiA isi_v (by rfl) T.n_isinstance bt_isinstance (da_cons (dv 6) (da_cons (d_type (by rfl) T.n_bool bt_bool) (da_nil))))))))⟩) (fun _ _ _ _ _ => ⟨_, dv 6⟩))) (d_lst (da_nil))) (dss_one (ds_ret ((d_bl).o))) (dss_nil))
 (dss_cons (ds_if (t_cmp (op_neD hu) ne_v (DO.z (o_call (ok__law_joined T) (hr.mono (by decide)) (takes_of rfl rfl rfl rfl) T.f13.at' T.f13.kp T.f13.bd .nil .nil (db_of (da_cons (DO.z (o_call (ok__law_joined T) (hr.mono (by decide)) (takes_of rfl rfl rfl rfl) T.f13.at' T.f13.kp T.f13.bd .nil .nil (db_of (da_cons (dv 2) (da_cons (dv 0) (da_nil)))))) (da_cons (DO.z (o_call (ok__law_back T) (hr.mono (by decide)) (takes_of rfl rfl rfl rfl) T.f14.at' T.f14.kp T.f14.bd .nil .nil (db_of (da_cons (dv 2) (da_nil))))) (da_nil)))))) (dv 1)) (dss_one (ds_ret ((d_bl).o))) (dss_nil))
 (dss_one (ds_ret ((d_cmp op_isA is_v (DO.z (o_call (ok_is_conjugator T) hr (takes_of rfl rfl rfl rfl) T.f8.at' T.f8.kp T.f8.bd .nil .nil (db_of (da_cons (dv 0) (da_cons (dv 1) (da_cons (dv 2) (da_nil))))))) (d_bl)).o))))))))))⟩
theorem ok_law (T : Txt K mg a fd c) : FnOk P w K mg base (L2.CX P w) 8 (a 17) (fd 17) ["_law_script"] (spOf K 0 1 m_law) := by
  have nd := (sc_law).nd
  refine fn_g (nb := 0) ["_law_script", "_law_k", "_law_pool_here", "_law_factor", "_law_x", "_law_h", "_law_first", "_law_turn", "_law_change", "_law_second", "_law_bad"] ["_law_script"] b_law T.f17.fn sc_law rfl rfl rfl (by decide) fun cdv A outer s H E hr => ?_
  have hu := hr.units
  have hu5 := hu65 hr
  exact ⟨_, dss_cons (ds_for (passes_of rfl) rfl (di_rng1 (by rfl) T.n_range (da_cons (d_cb (call_max2 rfl) max_v (by rfl) T.n_max bt_max (da_cons (d_int) (da_cons (d_cb (call_min2 rfl) min_v (by rfl) T.n_min bt_min (da_cons (d_int) (da_cons (d_cb call_len len_v (by rfl) T.n_len bt_len (da_cons (dv 0) (da_nil))) (da_nil)))) (da_nil)))) (da_nil))) (dg_name (i := 1) nd (by rfl)) (dss_cons (ds_set 2 nd (o_call (ok__law_pool T) (hr.mono (by decide)) (takes_of rfl rfl rfl rfl) T.f9.at' T.f9.kp T.f9.bd .nil .nil (db_of (da_cons (dv 0) (da_cons (dv 1) (da_nil))))))
 (dss_cons (ds_set 3 nd ((d_ix ix_seq ix_v (d_lst (da_cons (d_int) (da_cons (d_int) (da_cons (d_op op_addA add_v (d_int) (DO.z (o_call (ok__law_take T) (hr.mono (by decide)) (takes_of rfl rfl rfl rfl) T.f10.at' T.f10.kp T.f10.bd .nil .nil (db_cons 2 (db_of (da_cons (d_int) (da_nil))))))) (da_cons (d_op op_addA add_v (d_op op_pow pow_v (d_int) (d_int)) (d_int)) (da_nil)))))) (DO.z (o_call (ok__law_take T) (hr.mono (by decide)) (takes_of rfl rfl rfl rfl) T.f10.at' T.f10.kp T.f10.bd .nil .nil (db_cons 2 (db_of (da_cons (d_int) (da_nil))))))).o))
 (dss_cons (ds_par 4 5 (da_cons (d_op op_mulA mul_v (DO.z (o_call (ok__law_integer T) (hr.mono (by decide)) (takes_of rfl rfl rfl rfl) T.f11.at' T.f11.kp T.f11.bd .nil .nil (db_cons 2 (db_of (da_nil))))) (dv 3)) (da_cons (d_op op_mulA mul_v (DO.z (o_call (ok__law_integer T) (hr.mono (by decide)) (takes_of rfl rfl rfl rfl) T.f11.at' T.f11.kp T.f11.bd .nil .nil (db_cons 2 (db_of (da_nil))))) (dv 3)) (da_nil))) (fun p => ps_par (by rfl) nd (by rfl) (by rfl) (by decide) (by rfl) (by rfl) p (by rfl)))
 (dss_cons (ds_if (t_cmp (op_eqD hu) eq_v (DO.z (o_call (ok__law_take T) (hr.mono (by decide)) (takes_of rfl rfl rfl rfl) T.f10.at' T.f10.kp T.f10.bd .nil .nil (db_cons 2 (db_of (da_cons (d_int) (da_nil)))))) (d_int)) (dss_one (ds_set 4 nd ((d_int).o))) (dss_nil))
 (dss_cons (ds_if (t_cmp (op_eqD hu) eq_v (DO.z (o_call (ok__law_take T) (hr.mono (by decide)) (takes_of rfl rfl rfl rfl) T.f10.at' T.f10.kp T.f10.bd .nil .nil (db_cons 2 (db_of (da_cons (d_int) (da_nil)))))) (d_int)) (dss_one (ds_set 5 nd ((d_int).o))) (dss_nil))
 (dss_cons (ds_set 6 nd ((d_tup (da_cons (dv 4) (da_cons (dv 5) (da_cons (DO.z (o_call (ok__law_integer T) (hr.mono (by decide)) (takes_of rfl rfl rfl rfl) T.f11.at' T.f11.kp T.f11.bd .nil .nil (db_cons 2 (db_of (da_nil))))) (da_nil))))).o))
 (dss_cons (ds_for (passes_of rfl) rfl (di_rng1 (by rfl) T.n_range (da_cons (d_int) (da_nil))) (dg_name (i := 7) nd (by rfl)) (dss_cons (ds_set 8 nd ((d_ix ix_seq ix_v (d_lst (da_cons (d_op op_mulA mul_v (dv 3) (DO.z (o_call (ok__law_integer T) (hr.mono (by decide)) (takes_of rfl rfl rfl rfl) T.f11.at' T.f11.kp T.f11.bd .nil .nil (db_cons 2 (db_of (da_nil)))))) (da_cons (DO.z (o_call (ok__law_integer T) (hr.mono (by decide)) (takes_of rfl rfl rfl rfl) T.f11.at' T.f11.kp T.f11.bd .nil .nil (db_cons 2 (db_of (da_nil))))) (da_cons (d_op op_sub sub_v (DO.z (o_call (ok__law_take T) (hr.mono (by decide)) (takes_of rfl rfl rfl rfl) T.f10.at' T.f10.kp T.f10.bd .nil .nil (db_cons 2 (db_of (da_cons (d_int) (da_nil)))))) (d_int)) (da_nil))))) (DO.z (o_call (ok__law_take T) (hr.mono (by decide)) (takes_of rfl rfl rfl rfl) T.f10.at' T.f10.kp T.f10.bd .nil .nil (db_cons 2 (db_of (da_cons (d_int) (da_nil))))))).o))
 (dss_cons (ds_set 9 nd ((d_tup (da_cons (dv 4) (da_cons (dv 5) (da_cons (d_op op_addA add_v (d_ix ix_seq ix_v (dv 6) (d_int)) (dv 8)) (da_nil))))).o))
 (dss_cons (ds_if (t_cmp (op_eqD hu) eq_v (DO.z (o_call (ok__law_take T) (hr.mono (by decide)) (takes_of rfl rfl rfl rfl) T.f10.at' T.f10.kp T.f10.bd .nil .nil (db_cons 2 (db_of (da_cons (d_int) (da_nil)))))) (d_int)) (dss_one (ds_set 9 nd ((d_ix ix_seq ix_v (d_lst (da_cons (d_tup (da_cons (d_op op_addA add_v (dv 4) (d_int)) (da_cons (dv 5) (da_cons (d_ix ix_seq ix_v (dv 6) (d_int)) (da_nil))))) (da_cons (d_tup (da_cons (dv 4) (da_cons (d_op op_sub sub_v (dv 5) (d_int)) (da_cons (d_ix ix_seq ix_v (dv 6) (d_int)) (da_nil))))) (da_nil)))) (DO.z (o_call (ok__law_take T) (hr.mono (by decide)) (takes_of rfl rfl rfl rfl) T.f10.at' T.f10.kp T.f10.bd .nil .nil (db_cons 2 (db_of (da_cons (d_int) (da_nil))))))).o))) (dss_nil))
 (dss_one (ds_if (t_not (t_tru (DO.z (o_call (ok__law_right T) hr (takes_of rfl rfl rfl rfl) T.f16.at' T.f16.kp T.f16.bd .nil .nil (db_of (da_cons (dv 6) (da_cons (dv 9) (da_nil)))))))) (dss_one (ds_ret ((d_bl).o))) (dss_nil)))))))
 (dss_cons (ds_set 10 nd ((d_ix ix_seq ix_v (d_lst (da_cons (d_non) (da_cons (d_ct call_list_of list_v (by rfl) T.n_list bt_list (da_cons (dv 6) (da_nil))) (da_cons (d_sl (dv 6) (dp_none) (dp_some (d_int))) (da_cons (d_tup (da_cons (dv 4) (da_cons (d_bl) (da_cons (d_int) (da_nil))))) (da_cons (d_str) (da_nil))))))) (DO.z (o_call (ok__law_take T) (hr.mono (by decide)) (takes_of rfl rfl rfl rfl) T.f10.at' T.f10.kp T.f10.bd .nil .nil (db_cons 2 (db_of (da_cons (d_int) (da_nil))))))).o))
 (dss_one (ds_if (t_w (w_or (t_not (t_tru (DO.z (o_call (ok__law_refused T) (hr.mono (by decide)) (takes_of rfl rfl rfl rfl) T.f15.at' T.f15.kp T.f15.bd .nil .nil (db_of (da_cons (dv 10) (da_cons (dv 6) (da_nil)))))))) (w_or1 (t_not (t_tru (DO.z (o_call (ok__law_refused T) (hr.mono (by decide)) (takes_of rfl rfl rfl rfl) T.f15.at' T.f15.kp T.f15.bd .nil .nil (db_of (da_cons (dv 6) (da_cons (dv 10) (da_nil))))))))))) (dss_one (ds_ret ((d_bl).o))) (dss_nil))))))))))))
 (dss_one (ds_ret ((d_and (DO.z (o_call (ok__law_right T) hr (takes_of rfl rfl rfl rfl) T.f16.at' T.f16.kp T.f16.bd .nil .nil (db_of (da_cons (d_tup (da_cons (d_int) (da_cons (d_int) (da_cons (d_int) (da_nil))))) (da_cons (d_tup (da_cons (d_int) (da_cons (d_int) (da_cons (d_int) (da_nil))))) (da_nil)))))) (d_one (d_cmp op_isA is_v (DO.z (o_call (ok_conjugator T) (hr.mono (by decide)) (takes_of rfl rfl rfl rfl) T.f7.at' T.f7.kp T.f7.bd .nil .nil (db_of (da_cons (d_tup (da_cons (d_int) (da_cons (d_int) (da_cons (d_int) (da_nil))))) (da_cons (d_tup (da_cons (d_int) (da_cons (d_int) (da_cons (d_int) (da_nil))))) (da_nil)))))) (d_non)))).o)))⟩
end
end Lw
set_option Elab.async false
set_option linter.all false
set_option maxRecDepth 100000
set_option maxHeartbeats 4000000
namespace Lw
open PySem PySem.Spec PyProof.Rows L2 DL
/-! ### what the top has written -/
theorem all_mk {l : PySem.W.OpenLaw} {w : World} {K : PySem.W.Frag} {h : Heap} {mg : Str → Option Value} {fa : Addr} (X : K.In h) (G : h.Ns mainGlobals mg) (hfa : mg "law" = some (.ref fa))
    {f0 : Addr} {od0 an0 : Option Addr} {sl0 : Array (Option Value)} {oc0 kV0 dc0 pm0 cd0 ct0 : Value}
    {f1 : Addr} {od1 an1 : Option Addr} {sl1 : Array (Option Value)} {oc1 kV1 dc1 pm1 cd1 ct1 : Value}
    {f2 : Addr} {od2 an2 : Option Addr} {sl2 : Array (Option Value)} {oc2 kV2 dc2 pm2 cd2 ct2 : Value}
    {f3 : Addr} {od3 an3 : Option Addr} {sl3 : Array (Option Value)} {oc3 kV3 dc3 pm3 cd3 ct3 : Value}
    {f4 : Addr} {od4 an4 : Option Addr} {sl4 : Array (Option Value)} {oc4 kV4 dc4 pm4 cd4 ct4 : Value}
    {f5 : Addr} {od5 an5 : Option Addr} {sl5 : Array (Option Value)} {oc5 kV5 dc5 pm5 cd5 ct5 : Value}
    {f6 : Addr} {od6 an6 : Option Addr} {sl6 : Array (Option Value)} {oc6 kV6 dc6 pm6 cd6 ct6 : Value}
    {f7 : Addr} {od7 an7 : Option Addr} {sl7 : Array (Option Value)} {oc7 kV7 dc7 pm7 cd7 ct7 : Value}
    {f8 : Addr} {od8 an8 : Option Addr} {sl8 : Array (Option Value)} {oc8 kV8 dc8 pm8 cd8 ct8 : Value}
    {f9 : Addr} {od9 an9 : Option Addr} {sl9 : Array (Option Value)} {oc9 kV9 dc9 pm9 cd9 ct9 : Value}
    {f10 : Addr} {od10 an10 : Option Addr} {sl10 : Array (Option Value)} {oc10 kV10 dc10 pm10 cd10 ct10 : Value}
    {f11 : Addr} {od11 an11 : Option Addr} {sl11 : Array (Option Value)} {oc11 kV11 dc11 pm11 cd11 ct11 : Value}
    {f12 : Addr} {od12 an12 : Option Addr} {sl12 : Array (Option Value)} {oc12 kV12 dc12 pm12 cd12 ct12 : Value}
    {f13 : Addr} {od13 an13 : Option Addr} {sl13 : Array (Option Value)} {oc13 kV13 dc13 pm13 cd13 ct13 : Value}
    {f14 : Addr} {od14 an14 : Option Addr} {sl14 : Array (Option Value)} {oc14 kV14 dc14 pm14 cd14 ct14 : Value}
    {f15 : Addr} {od15 an15 : Option Addr} {sl15 : Array (Option Value)} {oc15 kV15 dc15 pm15 cd15 ct15 : Value}
    {f16 : Addr} {od16 an16 : Option Addr} {sl16 : Array (Option Value)} {oc16 kV16 dc16 pm16 cd16 ct16 : Value}
    {f17 : Addr} {od17 an17 : Option Addr} {sl17 : Array (Option Value)} {oc17 kV17 dc17 pm17 cd17 ct17 : Value}
    {C0 : Addr}
    (a0 : PySem.W.nsIn K mainGlobals "is_integer" = some (some (.ref f0)))
    (l0 : K.lookup f0 = some ⟨oc0, od0, .func (PySem.W.fnOf "is_integer" "is_integer" (defArgs s_is_integer) (defBody s_is_integer) (defScope s_is_integer) .none kV0 dc0 pm0 an0 cd0 ct0), sl0⟩)
    (c0 : PySem.W.codeIn K cd0 "is_integer" = true) (k0 : PySem.W.keepIn K (.ref f0) = true)
    (a1 : PySem.W.nsIn K mainGlobals "is_state" = some (some (.ref f1)))
    (l1 : K.lookup f1 = some ⟨oc1, od1, .func (PySem.W.fnOf "is_state" "is_state" (defArgs s_is_state) (defBody s_is_state) (defScope s_is_state) .none kV1 dc1 pm1 an1 cd1 ct1), sl1⟩)
    (c1 : PySem.W.codeIn K cd1 "is_state" = true) (k1 : PySem.W.keepIn K (.ref f1) = true)
    (a2 : PySem.W.nsIn K mainGlobals "is_displacement" = some (some (.ref f2)))
    (l2 : K.lookup f2 = some ⟨oc2, od2, .func (PySem.W.fnOf "is_displacement" "is_displacement" (defArgs s_is_displacement) (defBody s_is_displacement) (defScope s_is_displacement) .none kV2 dc2 pm2 an2 cd2 ct2), sl2⟩)
    (c2 : PySem.W.codeIn K cd2 "is_displacement" = true) (k2 : PySem.W.keepIn K (.ref f2) = true)
    (a3 : PySem.W.nsIn K mainGlobals "check_displacement" = some (some (.ref f3)))
    (l3 : K.lookup f3 = some ⟨oc3, od3, .func (PySem.W.fnOf "check_displacement" "check_displacement" (defArgs s_check_displacement) (defBody s_check_displacement) (defScope s_check_displacement) .none kV3 dc3 pm3 an3 cd3 ct3), sl3⟩)
    (c3 : PySem.W.codeIn K cd3 "check_displacement" = true) (k3 : PySem.W.keepIn K (.ref f3) = true)
    (a4 : PySem.W.nsIn K mainGlobals "apply_to" = some (some (.ref f4)))
    (l4 : K.lookup f4 = some ⟨oc4, od4, .func (PySem.W.fnOf "apply_to" "apply_to" (defArgs s_apply_to) (defBody s_apply_to) (defScope s_apply_to) .none kV4 dc4 pm4 an4 cd4 ct4), sl4⟩)
    (c4 : PySem.W.codeIn K cd4 "apply_to" = true) (k4 : PySem.W.keepIn K (.ref f4) = true)
    (a5 : PySem.W.nsIn K mainGlobals "inverse" = some (some (.ref f5)))
    (l5 : K.lookup f5 = some ⟨oc5, od5, .func (PySem.W.fnOf "inverse" "inverse" (defArgs s_inverse) (defBody s_inverse) (defScope s_inverse) .none kV5 dc5 pm5 an5 cd5 ct5), sl5⟩)
    (c5 : PySem.W.codeIn K cd5 "inverse" = true) (k5 : PySem.W.keepIn K (.ref f5) = true)
    (a6 : PySem.W.nsIn K mainGlobals "euclid" = some (some (.ref f6)))
    (l6 : K.lookup f6 = some ⟨oc6, od6, .func (PySem.W.fnOf "euclid" "euclid" (defArgs s_euclid) (defBody s_euclid) (defScope s_euclid) .none kV6 dc6 pm6 an6 cd6 ct6), sl6⟩)
    (c6 : PySem.W.codeIn K cd6 "euclid" = true) (k6 : PySem.W.keepIn K (.ref f6) = true)
    (a7 : PySem.W.nsIn K mainGlobals "conjugator" = some (some (.ref f7)))
    (l7 : K.lookup f7 = some ⟨oc7, od7, .func (PySem.W.fnOf "conjugator" "conjugator" (defArgs s_conjugator) (defBody s_conjugator) (defScope s_conjugator) .none kV7 dc7 pm7 an7 cd7 ct7), sl7⟩)
    (c7 : PySem.W.codeIn K cd7 "conjugator" = true) (k7 : PySem.W.keepIn K (.ref f7) = true)
    (a8 : PySem.W.nsIn K mainGlobals "is_conjugator" = some (some (.ref f8)))
    (l8 : K.lookup f8 = some ⟨oc8, od8, .func (PySem.W.fnOf "is_conjugator" "is_conjugator" (defArgs s_is_conjugator) (defBody s_is_conjugator) (defScope s_is_conjugator) .none kV8 dc8 pm8 an8 cd8 ct8), sl8⟩)
    (c8 : PySem.W.codeIn K cd8 "is_conjugator" = true) (k8 : PySem.W.keepIn K (.ref f8) = true)
    (a9 : PySem.W.nsIn K mainGlobals "_law_pool" = some (some (.ref f9)))
    (l9 : K.lookup f9 = some ⟨oc9, od9, .func (PySem.W.fnOf "_law_pool" "_law_pool" (defArgs s__law_pool) (defBody s__law_pool) (defScope s__law_pool) .none kV9 dc9 pm9 an9 cd9 ct9), sl9⟩)
    (c9 : PySem.W.codeIn K cd9 "_law_pool" = true) (k9 : PySem.W.keepIn K (.ref f9) = true)
    (a10 : PySem.W.nsIn K mainGlobals "_law_take" = some (some (.ref f10)))
    (l10 : K.lookup f10 = some ⟨oc10, od10, .func (PySem.W.fnOf "_law_take" "_law_take" (defArgs s__law_take) (defBody s__law_take) (defScope s__law_take) .none kV10 dc10 pm10 an10 cd10 ct10), sl10⟩)
    (c10 : PySem.W.codeIn K cd10 "_law_take" = true) (k10 : PySem.W.keepIn K (.ref f10) = true)
    (a11 : PySem.W.nsIn K mainGlobals "_law_integer" = some (some (.ref f11)))
    (l11 : K.lookup f11 = some ⟨oc11, od11, .func (PySem.W.fnOf "_law_integer" "_law_integer" (defArgs s__law_integer) (defBody s__law_integer) (defScope s__law_integer) .none kV11 dc11 pm11 an11 cd11 ct11), sl11⟩)
    (c11 : PySem.W.codeIn K cd11 "_law_integer" = true) (k11 : PySem.W.keepIn K (.ref f11) = true)
    (a12 : PySem.W.nsIn K mainGlobals "_law_common" = some (some (.ref f12)))
    (l12 : K.lookup f12 = some ⟨oc12, od12, .func (PySem.W.fnOf "_law_common" "_law_common" (defArgs s__law_common) (defBody s__law_common) (defScope s__law_common) .none kV12 dc12 pm12 an12 cd12 ct12), sl12⟩)
    (c12 : PySem.W.codeIn K cd12 "_law_common" = true) (k12 : PySem.W.keepIn K (.ref f12) = true)
    (a13 : PySem.W.nsIn K mainGlobals "_law_joined" = some (some (.ref f13)))
    (l13 : K.lookup f13 = some ⟨oc13, od13, .func (PySem.W.fnOf "_law_joined" "_law_joined" (defArgs s__law_joined) (defBody s__law_joined) (defScope s__law_joined) .none kV13 dc13 pm13 an13 cd13 ct13), sl13⟩)
    (c13 : PySem.W.codeIn K cd13 "_law_joined" = true) (k13 : PySem.W.keepIn K (.ref f13) = true)
    (a14 : PySem.W.nsIn K mainGlobals "_law_back" = some (some (.ref f14)))
    (l14 : K.lookup f14 = some ⟨oc14, od14, .func (PySem.W.fnOf "_law_back" "_law_back" (defArgs s__law_back) (defBody s__law_back) (defScope s__law_back) .none kV14 dc14 pm14 an14 cd14 ct14), sl14⟩)
    (c14 : PySem.W.codeIn K cd14 "_law_back" = true) (k14 : PySem.W.keepIn K (.ref f14) = true)
    (a15 : PySem.W.nsIn K mainGlobals "_law_refused" = some (some (.ref f15)))
    (l15 : K.lookup f15 = some ⟨oc15, od15, .func (PySem.W.fnOf "_law_refused" "_law_refused" (defArgs s__law_refused) (defBody s__law_refused) (defScope s__law_refused) .none kV15 dc15 pm15 an15 cd15 ct15), sl15⟩)
    (c15 : PySem.W.codeIn K cd15 "_law_refused" = true) (k15 : PySem.W.keepIn K (.ref f15) = true)
    (a16 : PySem.W.nsIn K mainGlobals "_law_right" = some (some (.ref f16)))
    (l16 : K.lookup f16 = some ⟨oc16, od16, .func (PySem.W.fnOf "_law_right" "_law_right" (defArgs s__law_right) (defBody s__law_right) (defScope s__law_right) .none kV16 dc16 pm16 an16 cd16 ct16), sl16⟩)
    (c16 : PySem.W.codeIn K cd16 "_law_right" = true) (k16 : PySem.W.keepIn K (.ref f16) = true)
    (a17 : PySem.W.nsIn K mainGlobals "law" = some (some (.ref f17)))
    (l17 : K.lookup f17 = some ⟨oc17, od17, .func (PySem.W.fnOf "law" "law" (defArgs s_law) (defBody s_law) (defScope s_law) .none kV17 dc17 pm17 an17 cd17 ct17), sl17⟩)
    (c17 : PySem.W.codeIn K cd17 "law" = true) (k17 : PySem.W.keepIn K (.ref f17) = true)
    (z0 : PySem.W.nsIn K mainGlobals "bool" = some none)
    (z1 : PySem.W.nsIn K mainGlobals "isinstance" = some none)
    (z2 : PySem.W.nsIn K mainGlobals "int" = some none)
    (z3 : PySem.W.nsIn K mainGlobals "all" = some none)
    (z4 : PySem.W.nsIn K mainGlobals "len" = some none)
    (z5 : PySem.W.nsIn K mainGlobals "tuple" = some none)
    (z6 : PySem.W.nsIn K mainGlobals "zip" = some none)
    (z7 : PySem.W.nsIn K mainGlobals "abs" = some none)
    (z8 : PySem.W.nsIn K mainGlobals "divmod" = some none)
    (z9 : PySem.W.nsIn K mainGlobals "min" = some none)
    (z10 : PySem.W.nsIn K mainGlobals "max" = some none)
    (z11 : PySem.W.nsIn K mainGlobals "range" = some none)
    (z12 : PySem.W.nsIn K mainGlobals "list" = some none)
    (A0 : PySem.W.nsIn K mainGlobals "InvalidDisplacement" = some (some (.ref C0))) (K0 : PySem.W.keepIn K (.ref C0) = true) (S0 : PySem.W.subIn K (.ref C0) (.type "BaseException") = some true) (Y0 : PySem.W.typeIn K (.ref C0) = some (.type "type")) (I0 : PySem.W.isClsIn K C0 = true)
    (X0 : PySem.W.excIn K C0 [.type "ValueError", .type "Exception", .type "BaseException", .type "object"] "ValueError.__new__" = true)
    (P0 : PySem.W.subIn K (.ref C0) (.ref C0) = some true)
    : ∃ fd : FuncData, (∀ (s : Shared) (v : Value), BindsTo s fd ⟨[v], []⟩ [("_law_script", v)]) ∧ ∀ base : Heap, K.In base → base.Ns mainGlobals mg → FnOk l.prog w K mg base (L2.CX l.prog w) 8 fa fd ["_law_script"] (spOf K 0 1 m_law) := by
  have e : fa = f17 := by
    have e := hfa.symm.trans (PySem.W.mg_of X G a17)
    cases e
    rfl
  subst e
  have F0 := fun_mk (st := s_is_integer) l0 c0 k0
  have b0 := F0.binds (ps := ["value"]) fun _ _ _ _ _ _ us hl => match us, hl with | [_], _ => rfl
  have F1 := fun_mk (st := s_is_state) l1 c1 k1
  have b1 := F1.binds (ps := ["value"]) fun _ _ _ _ _ _ us hl => match us, hl with | [_], _ => rfl
  have F2 := fun_mk (st := s_is_displacement) l2 c2 k2
  have b2 := F2.binds (ps := ["value"]) fun _ _ _ _ _ _ us hl => match us, hl with | [_], _ => rfl
  have F3 := fun_mk (st := s_check_displacement) l3 c3 k3
  have b3 := F3.binds (ps := ["value"]) fun _ _ _ _ _ _ us hl => match us, hl with | [_], _ => rfl
  have F4 := fun_mk (st := s_apply_to) l4 c4 k4
  have b4 := F4.binds (ps := ["start", "displacement"]) fun _ _ _ _ _ _ us hl => match us, hl with | [_, _], _ => rfl
  have F5 := fun_mk (st := s_inverse) l5 c5 k5
  have b5 := F5.binds (ps := ["displacement"]) fun _ _ _ _ _ _ us hl => match us, hl with | [_], _ => rfl
  have F6 := fun_mk (st := s_euclid) l6 c6 k6
  have b6 := F6.binds (ps := ["first", "second"]) fun _ _ _ _ _ _ us hl => match us, hl with | [_, _], _ => rfl
  have F7 := fun_mk (st := s_conjugator) l7 c7 k7
  have b7 := F7.binds (ps := ["first", "second"]) fun _ _ _ _ _ _ us hl => match us, hl with | [_, _], _ => rfl
  have F8 := fun_mk (st := s_is_conjugator) l8 c8 k8
  have b8 := F8.binds (ps := ["first", "second", "value"]) fun _ _ _ _ _ _ us hl => match us, hl with | [_, _, _], _ => rfl
  have F9 := fun_mk (st := s__law_pool) l9 c9 k9
  have b9 := F9.binds (ps := ["_law_script", "_law_k"]) fun _ _ _ _ _ _ us hl => match us, hl with | [_, _], _ => rfl
  have F10 := fun_mk (st := s__law_take) l10 c10 k10
  have b10 := F10.binds (ps := ["_law_pool_here", "_law_bound"]) fun _ _ _ _ _ _ us hl => match us, hl with | [_, _], _ => rfl
  have F11 := fun_mk (st := s__law_integer) l11 c11 k11
  have b11 := F11.binds (ps := ["_law_pool_here"]) fun _ _ _ _ _ _ us hl => match us, hl with | [_], _ => rfl
  have F12 := fun_mk (st := s__law_common) l12 c12 k12
  have b12 := F12.binds (ps := ["_law_one", "_law_other"]) fun _ _ _ _ _ _ us hl => match us, hl with | [_, _], _ => rfl
  have F13 := fun_mk (st := s__law_joined) l13 c13 k13
  have b13 := F13.binds (ps := ["_law_one", "_law_later"]) fun _ _ _ _ _ _ us hl => match us, hl with | [_, _], _ => rfl
  have F14 := fun_mk (st := s__law_back) l14 c14 k14
  have b14 := F14.binds (ps := ["_law_one"]) fun _ _ _ _ _ _ us hl => match us, hl with | [_], _ => rfl
  have F15 := fun_mk (st := s__law_refused) l15 c15 k15
  have b15 := F15.binds (ps := ["_law_first", "_law_second"]) fun _ _ _ _ _ _ us hl => match us, hl with | [_, _], _ => rfl
  have F16 := fun_mk (st := s__law_right) l16 c16 k16
  have b16 := F16.binds (ps := ["_law_first", "_law_second"]) fun _ _ _ _ _ _ us hl => match us, hl with | [_, _], _ => rfl
  have F17 := fun_mk (st := s_law) l17 c17 k17
  have b17 := F17.binds (ps := ["_law_script"]) fun _ _ _ _ _ _ us hl => match us, hl with | [_], _ => rfl
  have T : Txt K mg (fun i => [f0, f1, f2, f3, f4, f5, f6, f7, f8, f9, f10, f11, f12, f13, f14, f15, f16, fa].getD i 0) (fun i => [PySem.W.fnOf "is_integer" "is_integer" (defArgs s_is_integer) (defBody s_is_integer) (defScope s_is_integer) .none kV0 dc0 pm0 an0 cd0 ct0, PySem.W.fnOf "is_state" "is_state" (defArgs s_is_state) (defBody s_is_state) (defScope s_is_state) .none kV1 dc1 pm1 an1 cd1 ct1, PySem.W.fnOf "is_displacement" "is_displacement" (defArgs s_is_displacement) (defBody s_is_displacement) (defScope s_is_displacement) .none kV2 dc2 pm2 an2 cd2 ct2, PySem.W.fnOf "check_displacement" "check_displacement" (defArgs s_check_displacement) (defBody s_check_displacement) (defScope s_check_displacement) .none kV3 dc3 pm3 an3 cd3 ct3, PySem.W.fnOf "apply_to" "apply_to" (defArgs s_apply_to) (defBody s_apply_to) (defScope s_apply_to) .none kV4 dc4 pm4 an4 cd4 ct4, PySem.W.fnOf "inverse" "inverse" (defArgs s_inverse) (defBody s_inverse) (defScope s_inverse) .none kV5 dc5 pm5 an5 cd5 ct5, PySem.W.fnOf "euclid" "euclid" (defArgs s_euclid) (defBody s_euclid) (defScope s_euclid) .none kV6 dc6 pm6 an6 cd6 ct6, PySem.W.fnOf "conjugator" "conjugator" (defArgs s_conjugator) (defBody s_conjugator) (defScope s_conjugator) .none kV7 dc7 pm7 an7 cd7 ct7, PySem.W.fnOf "is_conjugator" "is_conjugator" (defArgs s_is_conjugator) (defBody s_is_conjugator) (defScope s_is_conjugator) .none kV8 dc8 pm8 an8 cd8 ct8, PySem.W.fnOf "_law_pool" "_law_pool" (defArgs s__law_pool) (defBody s__law_pool) (defScope s__law_pool) .none kV9 dc9 pm9 an9 cd9 ct9, PySem.W.fnOf "_law_take" "_law_take" (defArgs s__law_take) (defBody s__law_take) (defScope s__law_take) .none kV10 dc10 pm10 an10 cd10 ct10, PySem.W.fnOf "_law_integer" "_law_integer" (defArgs s__law_integer) (defBody s__law_integer) (defScope s__law_integer) .none kV11 dc11 pm11 an11 cd11 ct11, PySem.W.fnOf "_law_common" "_law_common" (defArgs s__law_common) (defBody s__law_common) (defScope s__law_common) .none kV12 dc12 pm12 an12 cd12 ct12, PySem.W.fnOf "_law_joined" "_law_joined" (defArgs s__law_joined) (defBody s__law_joined) (defScope s__law_joined) .none kV13 dc13 pm13 an13 cd13 ct13, PySem.W.fnOf "_law_back" "_law_back" (defArgs s__law_back) (defBody s__law_back) (defScope s__law_back) .none kV14 dc14 pm14 an14 cd14 ct14, PySem.W.fnOf "_law_refused" "_law_refused" (defArgs s__law_refused) (defBody s__law_refused) (defScope s__law_refused) .none kV15 dc15 pm15 an15 cd15 ct15, PySem.W.fnOf "_law_right" "_law_right" (defArgs s__law_right) (defBody s__law_right) (defScope s__law_right) .none kV16 dc16 pm16 an16 cd16 ct16, PySem.W.fnOf "law" "law" (defArgs s_law) (defBody s_law) (defScope s_law) .none kV17 dc17 pm17 an17 cd17 ct17].getD i (PySem.W.fnOf "law" "law" (defArgs s_law) (defBody s_law) (defScope s_law) .none kV17 dc17 pm17 an17 cd17 ct17)) (fun i => [C0].getD i 0) :=
    { f0 := ⟨F0, PySem.W.mg_of X G a0, b0⟩,
      f1 := ⟨F1, PySem.W.mg_of X G a1, b1⟩,
      f2 := ⟨F2, PySem.W.mg_of X G a2, b2⟩,
      f3 := ⟨F3, PySem.W.mg_of X G a3, b3⟩,
      f4 := ⟨F4, PySem.W.mg_of X G a4, b4⟩,
      f5 := ⟨F5, PySem.W.mg_of X G a5, b5⟩,
      f6 := ⟨F6, PySem.W.mg_of X G a6, b6⟩,
      f7 := ⟨F7, PySem.W.mg_of X G a7, b7⟩,
      f8 := ⟨F8, PySem.W.mg_of X G a8, b8⟩,
      f9 := ⟨F9, PySem.W.mg_of X G a9, b9⟩,
      f10 := ⟨F10, PySem.W.mg_of X G a10, b10⟩,
      f11 := ⟨F11, PySem.W.mg_of X G a11, b11⟩,
      f12 := ⟨F12, PySem.W.mg_of X G a12, b12⟩,
      f13 := ⟨F13, PySem.W.mg_of X G a13, b13⟩,
      f14 := ⟨F14, PySem.W.mg_of X G a14, b14⟩,
      f15 := ⟨F15, PySem.W.mg_of X G a15, b15⟩,
      f16 := ⟨F16, PySem.W.mg_of X G a16, b16⟩,
      f17 := ⟨F17, PySem.W.mg_of X G a17, b17⟩,
      n_bool := PySem.W.mg_none_of X G z0,
      n_isinstance := PySem.W.mg_none_of X G z1,
      n_int := PySem.W.mg_none_of X G z2,
      n_all := PySem.W.mg_none_of X G z3,
      n_len := PySem.W.mg_none_of X G z4,
      n_tuple := PySem.W.mg_none_of X G z5,
      n_zip := PySem.W.mg_none_of X G z6,
      n_abs := PySem.W.mg_none_of X G z7,
      n_divmod := PySem.W.mg_none_of X G z8,
      n_min := PySem.W.mg_none_of X G z9,
      n_max := PySem.W.mg_none_of X G z10,
      n_range := PySem.W.mg_none_of X G z11,
      n_list := PySem.W.mg_none_of X G z12,
      c_InvalidDisplacement := ⟨A0, PySem.W.mg_of X G A0, K0, S0, Y0, I0⟩,
      x_InvalidDisplacement := X0,
      s_InvalidDisplacement_InvalidDisplacement := P0 }
  exact ⟨_, fun s v => .of_eq rfl, fun base _ _ => ok_law T⟩
end Lw
open PySem PySem.W PyProof.Rows
set_option maxHeartbeats 0 in
theorem PySem.Challenge.cw_heightsums_k87_conjugators_found_holds : PySem.Challenge.rw_heightsums_k87_conjugators_found.Holds := by
  w_on; o_law; k_head; (case hw => w_witness2)
  k_fill
  refine L2.walk_ofB (l := PySem.Challenge.rw_heightsums_k87_conjugators_found) (n := 63) (k := 8) (x := "_law_script") (CX := fun w => L2.CX PySem.Challenge.rw_heightsums_k87_conjugators_found.prog w) (sp := fun w => DL.spOf _ 0 1 Lw.m_law) rfl (by decide) rfl ⟨rfl, by decide, by decide⟩ (fun w h Y => PySem.W.kIn_of Y) ?F (fun w H a ns hl hb _ hS => DL.law_sp Lw.wins _ H a ns hl hb hS) (fun _ _ _ _ _ h => DL.cx_no h)
  case F =>
    intro w mg fa h KX G hmg
    refine' Lw.all_mk KX G hmg ?a0 ?l0 ?c0 ?k0 ?a1 ?l1 ?c1 ?k1 ?a2 ?l2 ?c2 ?k2 ?a3 ?l3 ?c3 ?k3 ?a4 ?l4 ?c4 ?k4 ?a5 ?l5 ?c5 ?k5 ?a6 ?l6 ?c6 ?k6 ?a7 ?l7 ?c7 ?k7 ?a8 ?l8 ?c8 ?k8 ?a9 ?l9 ?c9 ?k9 ?a10 ?l10 ?c10 ?k10 ?a11 ?l11 ?c11 ?k11 ?a12 ?l12 ?c12 ?k12 ?a13 ?l13 ?c13 ?k13 ?a14 ?l14 ?c14 ?k14 ?a15 ?l15 ?c15 ?k15 ?a16 ?l16 ?c16 ?k16 ?a17 ?l17 ?c17 ?k17 ?z0 ?z1 ?z2 ?z3 ?z4 ?z5 ?z6 ?z7 ?z8 ?z9 ?z10 ?z11 ?z12 ?A0 ?K0 ?S0 ?Y0 ?I0 ?X0 ?P0
    (case a0 => k_is)
    (case l0 => k_is)
    (case c0 => k_is)
    (case k0 => k_is)
    (case a1 => k_is)
    (case l1 => k_is)
    (case c1 => k_is)
    (case k1 => k_is)
    (case a2 => k_is)
    (case l2 => k_is)
    (case c2 => k_is)
    (case k2 => k_is)
    (case a3 => k_is)
    (case l3 => k_is)
    (case c3 => k_is)
    (case k3 => k_is)
    (case a4 => k_is)
    (case l4 => k_is)
    (case c4 => k_is)
    (case k4 => k_is)
    (case a5 => k_is)
    (case l5 => k_is)
    (case c5 => k_is)
    (case k5 => k_is)
    (case a6 => k_is)
    (case l6 => k_is)
    (case c6 => k_is)
    (case k6 => k_is)
    (case a7 => k_is)
    (case l7 => k_is)
    (case c7 => k_is)
    (case k7 => k_is)
    (case a8 => k_is)
    (case l8 => k_is)
    (case c8 => k_is)
    (case k8 => k_is)
    (case a9 => k_is)
    (case l9 => k_is)
    (case c9 => k_is)
    (case k9 => k_is)
    (case a10 => k_is)
    (case l10 => k_is)
    (case c10 => k_is)
    (case k10 => k_is)
    (case a11 => k_is)
    (case l11 => k_is)
    (case c11 => k_is)
    (case k11 => k_is)
    (case a12 => k_is)
    (case l12 => k_is)
    (case c12 => k_is)
    (case k12 => k_is)
    (case a13 => k_is)
    (case l13 => k_is)
    (case c13 => k_is)
    (case k13 => k_is)
    (case a14 => k_is)
    (case l14 => k_is)
    (case c14 => k_is)
    (case k14 => k_is)
    (case a15 => k_is)
    (case l15 => k_is)
    (case c15 => k_is)
    (case k15 => k_is)
    (case a16 => k_is)
    (case l16 => k_is)
    (case c16 => k_is)
    (case k16 => k_is)
    (case a17 => k_is)
    (case l17 => k_is)
    (case c17 => k_is)
    (case k17 => k_is)
    (case z0 => k_is)
    (case z1 => k_is)
    (case z2 => k_is)
    (case z3 => k_is)
    (case z4 => k_is)
    (case z5 => k_is)
    (case z6 => k_is)
    (case z7 => k_is)
    (case z8 => k_is)
    (case z9 => k_is)
    (case z10 => k_is)
    (case z11 => k_is)
    (case z12 => k_is)
    (case A0 => k_is)
    (case K0 => k_is)
    (case S0 => k_is)
    (case Y0 => k_is)
    (case I0 => k_is)
    (case X0 => first | kernel_rfl | rfl)
    (case P0 => k_is)
