import PyProof.Rows.All
import Wide.All
import OpenK.AllK
import Wide.FinOn
import HandS.ForMost
import HandS.Exc
import HandS.TryOnly
import HandS.ExcOwn
import HandS.WordsExc
import HandS.ExcInit
import HandS.ExcField
import HandS.ExcIs
import HandS.Property
import HandS.IsInst
import HandS.Gcd
import HandS.Wide
import HandS.WideBits
import HandS.CallSlots
import HandS.Flow
import HandS.Defaults
import HandS.SlotsOwn
import KE.KOpsOwn
import HandS.Comp
import HandS.Iter
import HandS.Zip
import HandS.Rev
import HandS.RevRange
import KE.KMathG
import HandS.TupMul
import HandS.Head0
import HandS.Head1
import HandS.Head2
import HandS.HeadEnd
import HandS.HeadHook1
import HandS.HeadHook2
import HandS.ForList
import PySem.Challenge.RW_lastrows_k02_vectors
set_option Elab.async false
set_option linter.all false
set_option maxRecDepth 100000
set_option maxHeartbeats 4000000
set_option maxHeartbeats 2000000
/-! A layer over HandS: a def's body as a wp over pure values (no addresses, no heap). -/
namespace QL
open PySem PySem.Spec PyProof.Rows L2

/-- a pure value -/
inductive PV where
  | non | bl (b : Bool) | int (i : Int) | str (x : Str) | ty (n : String) | adr (a : Addr)
  | lst (xs : List PV) | tup (xs : List PV)
  | obj (C : Addr) (fs : List (Str × PV))

section
variable (K : PySem.W.Frag) (G : Hp)
mutual
/-- v stands for the pure value in the part G of the heap that is never changed again -/
inductive Rep : PV → V → Prop
  | non : Rep .non .non
  | bl (b : Bool) : Rep (.bl b) (.bl b)
  | int (i : Int) : Rep (.int i) (.int i)
  | str (x : Str) : Rep (.str x) (.str x)
  | ty (n : String) : Rep (.ty n) (.ty n)
  | adr (a : Addr) : Rep (.adr a) (.ref a)
  | lst {a : Addr} {vs : List V} {xs : List PV} : SqL K G a vs → Reps xs vs → Rep (.lst xs) (.ref a)
  | tup {a : Addr} {vs : List V} {xs : List PV} : SqT K G a vs → Reps xs vs → Rep (.tup xs) (.ref a)
  | obj {C a dx : Addr} {fs : List (Str × PV)} {gs : List (Str × V)} : G a = some (.ins C dx gs) → RepF fs gs → Rep (.obj C fs) (.ref a)
inductive Reps : List PV → List V → Prop
  | nil : Reps [] []
  | cons {x : PV} {v : V} {xs : List PV} {vs : List V} : Rep x v → Reps xs vs → Reps (x :: xs) (v :: vs)
inductive RepF : List (Str × PV) → List (Str × V) → Prop
  | nil : RepF [] []
  | cons {n : Str} {x : PV} {v : V} {xs : List (Str × PV)} {vs : List (Str × V)} : Rep x v → RepF xs vs → RepF ((n, x) :: xs) ((n, v) :: vs)
end
end

section
variable {K : PySem.W.Frag} {G G' H H' : Hp}
theorem Same.sqT {a : Addr} {xs : List V} (e : Same H H') (h : SqT K H a xs) : SqT K H' a xs := by
  rcases h with (h | ⟨o, h⟩) | h
  · exact .inl (.inl (e _ _ h))
  · exact .inl (.inr ⟨o, e _ _ h⟩)
  · exact .inr h
mutual
theorem Rep.mono (e : Same G G') : ∀ {x : PV} {v : V}, Rep K G x v → Rep K G' x v
  | _, _, .non => .non
  | _, _, .bl b => .bl b
  | _, _, .int i => .int i
  | _, _, .str x => .str x
  | _, _, .ty n => .ty n
  | _, _, .adr a => .adr a
  | _, _, .lst h r => .lst (e.seq h) (Reps.mono e r)
  | _, _, .tup h r => .tup (Same.sqT e h) (Reps.mono e r)
  | _, _, .obj h r => .obj (e _ _ h) (RepF.mono e r)
theorem Reps.mono (e : Same G G') : ∀ {x : List PV} {v : List V}, Reps K G x v → Reps K G' x v
  | _, _, .nil => .nil
  | _, _, .cons h r => .cons (Rep.mono e h) (Reps.mono e r)
theorem RepF.mono (e : Same G G') : ∀ {x : List (Str × PV)} {v : List (Str × V)}, RepF K G x v → RepF K G' x v
  | _, _, .nil => .nil
  | _, _, .cons h r => .cons (Rep.mono e h) (RepF.mono e r)
end
theorem Reps.length : ∀ {xs : List PV} {vs : List V}, Reps K G xs vs → xs.length = vs.length
  | _, _, .nil => rfl
  | _, _, .cons _ r => congrArg (· + 1) (Reps.length r)
theorem Reps.get : ∀ {xs : List PV} {vs : List V} {i : Nat} {x : PV}, Reps K G xs vs → xs[i]? = some x → ∃ v, vs[i]? = some v ∧ Rep K G x v
  | _, _, _, _, .nil, e => by simp at e
  | _, _, 0, _, .cons r _, e => by simp at e; subst e; exact ⟨_, rfl, r⟩
  | _, _, i + 1, x, .cons _ t, e => by
    obtain ⟨u, h1, h2⟩ := Reps.get (i := i) (x := x) t (by simpa using e)
    exact ⟨u, by simpa using h1, h2⟩
theorem Reps.getV : ∀ {xs : List PV} {vs : List V} {i : Nat} {v : V}, Reps K G xs vs → vs[i]? = some v → ∃ x, xs[i]? = some x ∧ Rep K G x v
  | _, _, _, _, .nil, e => by simp at e
  | _, _, 0, _, .cons r _, e => by simp at e; subst e; exact ⟨_, rfl, r⟩
  | _, _, i + 1, x, .cons _ t, e => by
    obtain ⟨u, h1, h2⟩ := Reps.getV (i := i) (v := x) t (by simpa using e)
    exact ⟨u, by simpa using h1, h2⟩
theorem Reps.append : ∀ {xs ys : List PV} {vs ws : List V}, Reps K G xs vs → Reps K G ys ws → Reps K G (xs ++ ys) (vs ++ ws)
  | _, _, _, _, .nil, s => s
  | _, _, _, _, .cons r t, s => .cons r (Reps.append t s)
theorem Reps.take : ∀ {xs : List PV} {vs : List V} (n : Nat), Reps K G xs vs → Reps K G (xs.take n) (vs.take n)
  | _, _, 0, _ => .nil
  | _, _, _ + 1, .nil => .nil
  | _, _, n + 1, .cons r t => .cons r (Reps.take n t)
theorem Reps.drop : ∀ {xs : List PV} {vs : List V} (n : Nat), Reps K G xs vs → Reps K G (xs.drop n) (vs.drop n)
  | _, _, 0, r => r
  | _, _, _ + 1, .nil => .nil
  | _, _, n + 1, .cons _ t => Reps.drop n t
theorem Reps.set {x : PV} {v : V} (r : Rep K G x v) : ∀ {xs : List PV} {vs : List V} (i : Nat), Reps K G xs vs → Reps K G (xs.set i x) (vs.set i v)
  | _, _, _, .nil => .nil
  | _, _, 0, .cons _ t => .cons r t
  | _, _, i + 1, .cons q t => .cons q (Reps.set r i t)
theorem Reps.dropLast : ∀ {xs : List PV} {vs : List V}, Reps K G xs vs → Reps K G xs.dropLast vs.dropLast
  | _, _, .nil => .nil
  | _, _, .cons _ .nil => .nil
  | _, _, .cons r (.cons r' t) => .cons r (Reps.dropLast (.cons r' t))
theorem Reps.reverse {xs : List PV} {vs : List V} (h : Reps K G xs vs) : Reps K G xs.reverse vs.reverse := by
  induction h using Reps.rec (motive_1 := fun _ _ _ => True) (motive_3 := fun _ _ _ => True) with
  | nil => exact .nil
  | cons r t _ ih => rw [List.reverse_cons, List.reverse_cons]; exact ih.append (.cons r .nil)
  | _ => trivial
theorem Reps.ints : ∀ {ns : List Int} {vs : List V}, Reps K G (ns.map PV.int) vs → vs = ns.map V.int
  | [], _, .nil => rfl
  | _ :: _, _, .cons (.int i) t => by rw [List.map_cons, Reps.ints t]
theorem reps_ints : ∀ (ns : List Int), Reps K G (ns.map PV.int) (ns.map V.int)
  | [] => .nil
  | i :: r => .cons (.int i) (reps_ints r)
theorem RepF.look {f : Str} : ∀ {fs : List (Str × PV)} {gs : List (Str × V)} {x : PV}, RepF K G fs gs → fs.lookup f = some x → ∃ v, gs.lookup f = some v ∧ Rep K G x v
  | _, _, _, .nil, e => by simp at e
  | (n, y) :: r, (_, v) :: s, x, .cons h t, e => by
    by_cases c : (f == n) = true
    · rw [List.lookup_cons, c] at e
      cases e
      exact ⟨v, by rw [List.lookup_cons, c], h⟩
    · have c' : (f == n) = false := by simpa using c
      rw [List.lookup_cons, c'] at e
      obtain ⟨u, h1, h2⟩ := RepF.look t e
      exact ⟨u, by rw [List.lookup_cons, c']; exact h1, h2⟩
theorem RepF.lookN {f : Str} : ∀ {fs : List (Str × PV)} {gs : List (Str × V)}, RepF K G fs gs → fs.lookup f = none → gs.lookup f = none
  | _, _, .nil, _ => rfl
  | (n, y) :: r, (_, v) :: s, .cons h t, e => by
    by_cases c : (f == n) = true
    · rw [List.lookup_cons, c] at e
      cases e
    · have c' : (f == n) = false := by simpa using c
      rw [List.lookup_cons, c'] at e
      rw [List.lookup_cons, c']
      exact RepF.lookN t e
theorem RepF.length : ∀ {fs : List (Str × PV)} {gs : List (Str × V)}, RepF K G fs gs → fs.length = gs.length
  | _, _, .nil => rfl
  | _, _, .cons _ t => congrArg (· + 1) (RepF.length t)
/-- as putF -/
def putP (f : Str) (v : PV) : List (Str × PV) → List (Str × PV)
  | [] => [(f, v)]
  | (g, u) :: r => if g = f then (g, v) :: r else (g, u) :: putP f v r
theorem RepF.put {f : Str} {x : PV} {v : V} (h : Rep K G x v) : ∀ {fs : List (Str × PV)} {gs : List (Str × V)}, RepF K G fs gs → RepF K G (putP f x fs) (putF f v gs)
  | _, _, .nil => .cons h .nil
  | (n, y) :: r, (_, u) :: s, .cons q t => by
    show RepF K G (if n = f then (n, x) :: r else (n, y) :: putP f x r) (if n = f then (n, v) :: s else (n, u) :: putF f v s)
    by_cases c : n = f
    · rw [if_pos c, if_pos c]
      exact .cons h t
    · rw [if_neg c, if_neg c]
      exact .cons q (RepF.put h t)
end

/-! ### the steps of the heap: H what is tracked, G the part of it that values may lie in -/
structure Step (G H G' H' : Hp) : Prop where
  hh : Same H H'
  gg : Same G G'
  gh : Same G' H'
  new : ∀ a o, G' a = some o → G a = none → H a = none
theorem Step.refl {G H : Hp} (h : Same G H) : Step G H G H := ⟨Same.refl _, Same.refl _, h, fun a o e n => by rw [e] at n; cases n⟩
theorem Step.trans {G H G1 H1 G2 H2 : Hp} (a : Step G H G1 H1) (b : Step G1 H1 G2 H2) : Step G H G2 H2 := by
  refine ⟨a.hh.trans b.hh, a.gg.trans b.gg, b.gh, fun x o e n => ?_⟩
  cases q : G1 x with
  | some u => exact a.new x u q n
  | none => exact a.hh.free (b.new x o e q)
/-- a new object that values may lie in -/
theorem Step.alloc {G H : Hp} (h : Same G H) {p : Addr} {o : HO} (hp : H p = none) : Step G H (upd G p o) (upd H p o) := by
  have hg : G p = none := h.free hp
  refine ⟨fun a u e => by rw [upd_ne (ne_of_none e hp)]; exact e, fun a u e => by rw [upd_ne (ne_of_none e hg)]; exact e, fun a u e => ?_, fun a u e n => ?_⟩
  · by_cases c : a = p
    · subst c; rw [upd_same] at e ⊢; exact e
    · rw [upd_ne c] at e ⊢; exact h _ _ e
  · by_cases c : a = p
    · subst c; exact hp
    · rw [upd_ne c] at e; rw [e] at n; cases n
/-- a new object that is not to be seen as yet -/
theorem Step.hid {G H : Hp} (h : Same G H) {p : Addr} {o : HO} (hp : H p = none) : Step G H G (upd H p o) :=
  ⟨fun a u e => by rw [upd_ne (ne_of_none e hp)]; exact e, Same.refl _, fun a u e => by rw [upd_ne (ne_of_none (h _ _ e) hp)]; exact h _ _ e, fun a o e n => by rw [e] at n; cases n⟩

/-! ### the slots -/
inductive Sl where
  /-- a value -/
  | pv (x : PV)
  /-- a list that this def made and may change -/
  | own (xs : List PV)
  /-- an instance that is being made -/
  | ins (a C : Addr) (fs : List (Str × PV))
  /-- the exception that an except suite holds: at a, its dict at d -/
  | exc (a d C : Addr) (fs : List (Str × PV))
abbrev PSt := List (Option Sl)
/-- an exception: its class, its fields -/
structure PX where
  C : Addr
  fs : List (Str × PV)
def RepX (K : PySem.W.Frag) (G H : Hp) (p : PX) (d : Addr) : Prop := ∃ gs, H d = some (.xd gs) ∧ RepF K G p.fs gs

section
variable (K : PySem.W.Frag)
structure RelS (Gb Hb : Hp) (ρ : PSt) (σ : L2.St) (G H : Hp) : Prop where
  step : Step Gb Hb G H
  len : ρ.length = σ.length
  val : ∀ (i : Nat) (x : PV), ρ[i]? = some (some (.pv x)) → ∃ v, σ[i]? = some (some v) ∧ Rep K G x v
  own : ∀ (i : Nat) (xs : List PV), ρ[i]? = some (some (.own xs)) → ∃ (a : Addr) (vs : List V), σ[i]? = some (some (.ref a)) ∧ H a = some (.lst vs) ∧ Reps K G xs vs ∧ G a = none ∧ Hb a = none
  ins : ∀ (i : Nat) (a C : Addr) (fs : List (Str × PV)), ρ[i]? = some (some (.ins a C fs)) → ∃ (dx : Addr) (gs : List (Str × V)), σ[i]? = some (some (.ref a)) ∧ H a = some (.ins C dx gs) ∧ RepF K G fs gs ∧ G a = none ∧ Hb a = none
  exc : ∀ (i : Nat) (a d C : Addr) (fs : List (Str × PV)), ρ[i]? = some (some (.exc a d C fs)) → σ[i]? = some (some (.ref a)) ∧ RepX K G H ⟨C, fs⟩ d
  one : ∀ (i j : Nat) (a C b D : Addr) (fs gs : List (Str × PV)), ρ[i]? = some (some (.ins a C fs)) → ρ[j]? = some (some (.ins b D gs)) → i = j
  sep : ∀ (i j : Nat) (xs ys : List PV) (a : Addr), ρ[i]? = some (some (.own xs)) → ρ[j]? = some (some (.own ys)) → σ[i]? = some (some (.ref a)) → σ[j]? = some (some (.ref a)) → i = j
end

section
variable {K : PySem.W.Frag} {Gb Hb G H G' H' : Hp} {ρ : PSt} {σ : L2.St}
theorem RepX.mono {p : PX} {d : Addr} (s : Step G H G' H') (r : RepX K G H p d) : RepX K G' H' p d := by
  obtain ⟨gs, h, f⟩ := r
  exact ⟨gs, s.hh _ _ h, f.mono s.gg⟩
theorem Step.hidden (s : Step G H G' H') {a : Addr} {o : HO} (h : H a = some o) (g : G a = none) : G' a = none := by
  cases q : G' a with
  | none => rfl
  | some u => rw [s.new a u q g] at h; cases h
theorem RelS.mono (r : RelS K Gb Hb ρ σ G H) (s : Step G H G' H') : RelS K Gb Hb ρ σ G' H' where
  step := r.step.trans s
  len := r.len
  val := fun i x e => by
    obtain ⟨v, h1, h2⟩ := r.val i x e
    exact ⟨v, h1, h2.mono s.gg⟩
  own := fun i xs e => by
    obtain ⟨a, vs, h1, h2, h3, h4, h5⟩ := r.own i xs e
    exact ⟨a, vs, h1, s.hh _ _ h2, h3.mono s.gg, s.hidden h2 h4, h5⟩
  ins := fun i a C fs e => by
    obtain ⟨dx, gs, h1, h2, h3, h4, h5⟩ := r.ins i a C fs e
    exact ⟨dx, gs, h1, s.hh _ _ h2, h3.mono s.gg, s.hidden h2 h4, h5⟩
  exc := fun i a d C fs e => by
    obtain ⟨h1, h2⟩ := r.exc i a d C fs e
    exact ⟨h1, h2.mono s⟩
  one := r.one
  sep := r.sep
theorem RelS.gh (r : RelS K Gb Hb ρ σ G H) : Same G H := r.step.gh
theorem set_get {α : Type} {l : List α} {i j : Nat} {x y : α} (h : (l.set i x)[j]? = some y) : (i = j ∧ y = x ∧ i < l.length) ∨ (i ≠ j ∧ l[j]? = some y) := by
  by_cases c : i = j
  · subst c
    by_cases hl : i < l.length
    · rw [List.getElem?_set_self hl] at h
      exact .inl ⟨rfl, (Option.some.inj h).symm, hl⟩
    · rw [List.getElem?_eq_none (by simpa using hl)] at h
      cases h
  · rw [List.getElem?_set_ne c] at h
    exact .inr ⟨c, h⟩
/-- a slot is stored: a value -/
theorem RelS.set (r : RelS K Gb Hb ρ σ G H) (i : Nat) {x : PV} {v : V} (h : Rep K G x v) : RelS K Gb Hb (ρ.set i (some (.pv x))) (σ.set i (some v)) G H where
  step := r.step
  len := by simp [r.len]
  val := fun j y e => by
    rcases set_get e with ⟨rfl, e, hl⟩ | ⟨n, e⟩
    · cases e
      exact ⟨v, List.getElem?_set_self (by rw [← r.len]; exact hl), h⟩
    · obtain ⟨u, h1, h2⟩ := r.val j y e
      exact ⟨u, by rw [List.getElem?_set_ne n]; exact h1, h2⟩
  own := fun j xs e => by
    rcases set_get e with ⟨rfl, e, hl⟩ | ⟨n, e⟩
    · cases e
    · obtain ⟨a, vs, h1, h2⟩ := r.own j xs e
      exact ⟨a, vs, by rw [List.getElem?_set_ne n]; exact h1, h2⟩
  ins := fun j a C fs e => by
    rcases set_get e with ⟨rfl, e, hl⟩ | ⟨n, e⟩
    · cases e
    · obtain ⟨dx, gs, h1, h2⟩ := r.ins j a C fs e
      exact ⟨dx, gs, by rw [List.getElem?_set_ne n]; exact h1, h2⟩
  exc := fun j a d C fs e => by
    rcases set_get e with ⟨rfl, e, hl⟩ | ⟨n, e⟩
    · cases e
    · obtain ⟨h1, h2⟩ := r.exc j a d C fs e
      exact ⟨by rw [List.getElem?_set_ne n]; exact h1, h2⟩
  one := fun j k a C b D fs gs e1 e2 => by
    rcases set_get e1 with ⟨rfl, e, hl⟩ | ⟨n1, e1⟩
    · cases e
    · rcases set_get e2 with ⟨rfl, e, hl⟩ | ⟨n2, e2⟩
      · cases e
      · exact r.one j k _ C _ D fs gs e1 e2
  sep := fun j k xs ys a e1 e2 s1 s2 => by
    rcases set_get e1 with ⟨rfl, e, hl⟩ | ⟨n1, e1⟩
    · cases e
    · rcases set_get e2 with ⟨rfl, e, hl⟩ | ⟨n2, e2⟩
      · cases e
      · rw [List.getElem?_set_ne n1] at s1
        rw [List.getElem?_set_ne n2] at s2
        exact r.sep j k xs ys a e1 e2 s1 s2
/-- a slot is forgotten -/
theorem RelS.drop (r : RelS K Gb Hb ρ σ G H) (i : Nat) (w : Option V) : RelS K Gb Hb (ρ.set i none) (σ.set i w) G H where
  step := r.step
  len := by simp [r.len]
  val := fun j y e => by
    rcases set_get e with ⟨rfl, e, hl⟩ | ⟨n, e⟩
    · cases e
    · obtain ⟨u, h1, h2⟩ := r.val j y e
      exact ⟨u, by rw [List.getElem?_set_ne n]; exact h1, h2⟩
  own := fun j xs e => by
    rcases set_get e with ⟨rfl, e, hl⟩ | ⟨n, e⟩
    · cases e
    · obtain ⟨a, vs, h1, h2⟩ := r.own j xs e
      exact ⟨a, vs, by rw [List.getElem?_set_ne n]; exact h1, h2⟩
  ins := fun j a C fs e => by
    rcases set_get e with ⟨rfl, e, hl⟩ | ⟨n, e⟩
    · cases e
    · obtain ⟨dx, gs, h1, h2⟩ := r.ins j a C fs e
      exact ⟨dx, gs, by rw [List.getElem?_set_ne n]; exact h1, h2⟩
  exc := fun j a d C fs e => by
    rcases set_get e with ⟨rfl, e, hl⟩ | ⟨n, e⟩
    · cases e
    · obtain ⟨h1, h2⟩ := r.exc j a d C fs e
      exact ⟨by rw [List.getElem?_set_ne n]; exact h1, h2⟩
  one := fun j k a C b D fs gs e1 e2 => by
    rcases set_get e1 with ⟨rfl, e, hl⟩ | ⟨n1, e1⟩
    · cases e
    · rcases set_get e2 with ⟨rfl, e, hl⟩ | ⟨n2, e2⟩
      · cases e
      · exact r.one j k _ C _ D fs gs e1 e2
  sep := fun j k xs ys a e1 e2 s1 s2 => by
    rcases set_get e1 with ⟨rfl, e, hl⟩ | ⟨n1, e1⟩
    · cases e
    · rcases set_get e2 with ⟨rfl, e, hl⟩ | ⟨n2, e2⟩
      · cases e
      · rw [List.getElem?_set_ne n1] at s1
        rw [List.getElem?_set_ne n2] at s2
        exact r.sep j k xs ys a e1 e2 s1 s2
/-- a slot is stored: a new list of one's own -/
theorem RelS.setOwn (r : RelS K Gb Hb ρ σ G H) (i : Nat) {p : Addr} {xs : List PV} {vs : List V} (hp : H p = some (.lst vs)) (h : Reps K G xs vs) (hg : G p = none) (hb : Hb p = none)
    (hn : ∀ (j : Nat) (ys : List PV), ρ[j]? = some (some (.own ys)) → σ[j]? ≠ some (some (.ref p))) : RelS K Gb Hb (ρ.set i (some (.own xs))) (σ.set i (some (.ref p))) G H where
  step := r.step
  len := by simp [r.len]
  val := fun j y e => by
    rcases set_get e with ⟨rfl, e, hl⟩ | ⟨n, e⟩
    · cases e
    · obtain ⟨u, h1, h2⟩ := r.val j y e
      exact ⟨u, by rw [List.getElem?_set_ne n]; exact h1, h2⟩
  own := fun j ys e => by
    rcases set_get e with ⟨rfl, e, hl⟩ | ⟨n, e⟩
    · cases e
      exact ⟨p, vs, List.getElem?_set_self (by rw [← r.len]; exact hl), hp, h, hg, hb⟩
    · obtain ⟨a, vs, h1, h2⟩ := r.own j ys e
      exact ⟨a, vs, by rw [List.getElem?_set_ne n]; exact h1, h2⟩
  ins := fun j a C fs e => by
    rcases set_get e with ⟨rfl, e, hl⟩ | ⟨n, e⟩
    · cases e
    · obtain ⟨dx, gs, h1, h2⟩ := r.ins j a C fs e
      exact ⟨dx, gs, by rw [List.getElem?_set_ne n]; exact h1, h2⟩
  exc := fun j a d C fs e => by
    rcases set_get e with ⟨rfl, e, hl⟩ | ⟨n, e⟩
    · cases e
    · obtain ⟨h1, h2⟩ := r.exc j a d C fs e
      exact ⟨by rw [List.getElem?_set_ne n]; exact h1, h2⟩
  one := fun j k a C b D fs gs e1 e2 => by
    rcases set_get e1 with ⟨rfl, e, hl⟩ | ⟨n1, e1⟩
    · cases e
    · rcases set_get e2 with ⟨rfl, e, hl⟩ | ⟨n2, e2⟩
      · cases e
      · exact r.one j k _ C _ D fs gs e1 e2
  sep := fun j k ys zs a e1 e2 s1 s2 => by
    rcases set_get e1 with ⟨rfl, e, hl⟩ | ⟨n1, e1⟩
    · rcases set_get e2 with ⟨rfl, e', hl'⟩ | ⟨n2, e2⟩
      · rfl
      · rw [List.getElem?_set_self (by rw [← r.len]; exact hl)] at s1
        cases s1
        rw [List.getElem?_set_ne n2] at s2
        exact absurd s2 (hn k zs e2)
    · rcases set_get e2 with ⟨rfl, e', hl'⟩ | ⟨n2, e2⟩
      · rw [List.getElem?_set_self (by rw [← r.len]; exact hl')] at s2
        cases s2
        rw [List.getElem?_set_ne n1] at s1
        exact absurd s1 (hn j ys e1)
      · rw [List.getElem?_set_ne n1] at s1
        rw [List.getElem?_set_ne n2] at s2
        exact r.sep j k ys zs a e1 e2 s1 s2
/-- the own list at slot i changes -/
theorem RelS.turn (r : RelS K Gb Hb ρ σ G H) {i : Nat} {a : Addr} {xs ys : List PV} {vs ws : List V} (e : ρ[i]? = some (some (.own xs))) (hs : σ[i]? = some (some (.ref a))) (ha : H a = some (.lst vs))
    (h : Reps K G ys ws) : RelS K Gb Hb (ρ.set i (some (.own ys))) σ G (upd H a (.lst ws)) := by
  obtain ⟨a', vs', q1, q2, q3, q4, q5⟩ := r.own i xs e
  rw [hs] at q1
  cases q1
  have hne : ∀ b o, G b = some o → b ≠ a := fun b o e => ne_of_none e q4
  have il : i < ρ.length := by
    rcases Nat.lt_or_ge i ρ.length with h | h
    · exact h
    · rw [List.getElem?_eq_none h] at e; cases e
  refine ⟨⟨fun b o q => ?_, r.step.gg, fun b o q => ?_, r.step.new⟩, by simp [r.len], fun j y q => ?_, fun j zs q => ?_, fun j b C fs q => ?_, fun j b d C fs q => ?_, fun j k b1 C b2 D fs gs e1 e2 => ?_, fun j k us zs b e1 e2 s1 s2 => ?_⟩
  · rw [upd_ne (ne_of_none q q5)]
    exact r.step.hh _ _ q
  · rw [upd_ne (hne b o q)]
    exact r.step.gh _ _ q
  · rcases set_get q with ⟨rfl, q, hl⟩ | ⟨n, q⟩
    · cases q
    · exact r.val j y q
  · rcases set_get q with ⟨rfl, q, hl⟩ | ⟨n, q⟩
    · cases q
      exact ⟨a, ws, hs, upd_same, h, q4, q5⟩
    · obtain ⟨b, us, h1, h2, h3, h4, h5⟩ := r.own j zs q
      have hab : b ≠ a := fun z => by
        subst z
        exact n (r.sep i j xs zs b e q hs h1)
      exact ⟨b, us, h1, by rw [upd_ne hab]; exact h2, h3, h4, h5⟩
  · rcases set_get q with ⟨rfl, q, hl⟩ | ⟨n, q⟩
    · cases q
    · obtain ⟨dx, gs, h1, h2, h3, h4, h5⟩ := r.ins j b C fs q
      exact ⟨dx, gs, h1, by rw [upd_ne (ne_of h2 ha (by intro z; cases z))]; exact h2, h3, h4, h5⟩
  · rcases set_get q with ⟨rfl, q, hl⟩ | ⟨n, q⟩
    · cases q
    · obtain ⟨h1, gs, h2, h3⟩ := r.exc j b d C fs q
      exact ⟨h1, gs, by rw [upd_ne (ne_of h2 ha (by intro z; cases z))]; exact h2, h3⟩
  · rcases set_get e1 with ⟨rfl, e, hl⟩ | ⟨n1, e1⟩
    · cases e
    · rcases set_get e2 with ⟨rfl, e, hl⟩ | ⟨n2, e2⟩
      · cases e
      · exact r.one j k _ C _ D fs gs e1 e2
  · have f : ∀ {j : Nat} {zs : List PV}, (ρ.set i (some (.own ys)))[j]? = some (some (.own zs)) → ∃ zs', ρ[j]? = some (some (.own zs')) := fun {j zs} q => by
      rcases set_get q with ⟨rfl, q, hl⟩ | ⟨n, q⟩
      · exact ⟨xs, e⟩
      · exact ⟨zs, q⟩
    obtain ⟨u1, f1⟩ := f e1
    obtain ⟨u2, f2⟩ := f e2
    exact r.sep j k u1 u2 b f1 f2 s1 s2
/-- the own list at slot i is let be: from now on a value -/
theorem RelS.freeze (r : RelS K Gb Hb ρ σ G H) {i : Nat} {xs : List PV} (e : ρ[i]? = some (some (.own xs))) : ∃ G', RelS K Gb Hb (ρ.set i (some (.pv (.lst xs)))) σ G' H ∧ Same G G' := by
  obtain ⟨a, vs, q1, q2, q3, q4, q5⟩ := r.own i xs e
  have gg : Same G (upd G a (.lst vs)) := fun b o z => by rw [upd_ne (ne_of_none z q4)]; exact z
  refine ⟨upd G a (.lst vs), ⟨⟨r.step.hh, r.step.gg.trans gg, fun b o z => ?_, fun b o z n => ?_⟩, by simp [r.len], fun j y q => ?_, fun j zs q => ?_, fun j b C fs q => ?_, fun j b d C fs q => ?_, fun j k b1 C b2 D fs gs e1 e2 => ?_, fun j k us zs b e1 e2 s1 s2 => ?_⟩, gg⟩
  · by_cases c : b = a
    · subst c; rw [upd_same] at z; cases z; exact q2
    · rw [upd_ne c] at z; exact r.step.gh _ _ z
  · by_cases c : b = a
    · subst c; exact q5
    · rw [upd_ne c] at z; exact r.step.new b o z n
  · rcases set_get q with ⟨rfl, q, hl⟩ | ⟨n, q⟩
    · cases q
      exact ⟨.ref a, q1, .lst (SqL.of upd_same) (q3.mono gg)⟩
    · obtain ⟨v, h1, h2⟩ := r.val j y q
      exact ⟨v, h1, h2.mono gg⟩
  · rcases set_get q with ⟨rfl, q, hl⟩ | ⟨n, q⟩
    · cases q
    · obtain ⟨b, us, h1, h2, h3, h4, h5⟩ := r.own j zs q
      have hab : b ≠ a := fun z => by
        subst z
        exact n (r.sep i j xs zs b e q q1 h1)
      exact ⟨b, us, h1, h2, h3.mono gg, by rw [upd_ne hab]; exact h4, h5⟩
  · rcases set_get q with ⟨rfl, q, hl⟩ | ⟨n, q⟩
    · cases q
    · obtain ⟨dx, gs, h1, h2, h3, h4, h5⟩ := r.ins j b C fs q
      exact ⟨dx, gs, h1, h2, h3.mono gg, by rw [upd_ne (ne_of h2 q2 (by intro z; cases z))]; exact h4, h5⟩
  · rcases set_get q with ⟨rfl, q, hl⟩ | ⟨n, q⟩
    · cases q
    · obtain ⟨h1, gs, h2, h3⟩ := r.exc j b d C fs q
      exact ⟨h1, gs, h2, h3.mono gg⟩
  · rcases set_get e1 with ⟨rfl, e, hl⟩ | ⟨n1, e1⟩
    · cases e
    · rcases set_get e2 with ⟨rfl, e, hl⟩ | ⟨n2, e2⟩
      · cases e
      · exact r.one j k _ C _ D fs gs e1 e2
  · have f : ∀ {j : Nat} {zs : List PV}, (ρ.set i (some (.pv (.lst xs))))[j]? = some (some (.own zs)) → ρ[j]? = some (some (.own zs)) := fun {j zs} q => by
      rcases set_get q with ⟨rfl, q, hl⟩ | ⟨n, q⟩
      · cases q
      · exact q
    exact r.sep j k us zs b (f e1) (f e2) s1 s2
/-- a field of the instance that is being made -/
theorem RelS.fld (r : RelS K Gb Hb ρ σ G H) {i : Nat} {a C dx : Addr} {fs fs' : List (Str × PV)} {gs gs' : List (Str × V)} (e : ρ[i]? = some (some (.ins a C fs)))
    (ha : H a = some (.ins C dx gs)) (h : RepF K G fs' gs') : RelS K Gb Hb (ρ.set i (some (.ins a C fs'))) σ G (upd H a (.ins C dx gs')) := by
  obtain ⟨dx', gs0, hs, q2, q3, q4, q5⟩ := r.ins i a C fs e
  have hne : ∀ b o, G b = some o → b ≠ a := fun b o e => ne_of_none e q4
  refine ⟨⟨fun b o q => ?_, r.step.gg, fun b o q => ?_, r.step.new⟩, by simp [r.len], fun j y q => ?_, fun j zs q => ?_, fun j b C' fs'' q => ?_, fun j b d C' fs'' q => ?_, fun j k b1 C1 b2 C2 fs1 fs2 e1 e2 => ?_, fun j k us zs b e1 e2 s1 s2 => ?_⟩
  · rw [upd_ne (ne_of_none q q5)]
    exact r.step.hh _ _ q
  · rw [upd_ne (hne b o q)]
    exact r.step.gh _ _ q
  · rcases set_get q with ⟨rfl, q, hl⟩ | ⟨n, q⟩
    · cases q
    · exact r.val j y q
  · rcases set_get q with ⟨rfl, q, hl⟩ | ⟨n, q⟩
    · cases q
    · obtain ⟨b, us, h1, h2, h3⟩ := r.own j zs q
      exact ⟨b, us, h1, by rw [upd_ne (ne_of h2 ha (by intro z; cases z))]; exact h2, h3⟩
  · rcases set_get q with ⟨rfl, q, hl⟩ | ⟨n, q⟩
    · cases q
      exact ⟨dx, gs', hs, upd_same, h, q4, q5⟩
    · exact absurd (r.one i j _ C _ C' fs fs'' e q) n
  · rcases set_get q with ⟨rfl, q, hl⟩ | ⟨n, q⟩
    · cases q
    · obtain ⟨h1, gs, h2, h3⟩ := r.exc j b d C' fs'' q
      exact ⟨h1, gs, by rw [upd_ne (ne_of h2 ha (by intro z; cases z))]; exact h2, h3⟩
  · have f : ∀ {j : Nat} {b C' : Addr} {zs : List (Str × PV)}, (ρ.set i (some (.ins a C fs')))[j]? = some (some (.ins b C' zs)) → ∃ b' C'' zs', ρ[j]? = some (some (.ins b' C'' zs')) := fun {j b C' zs} q => by
      rcases set_get q with ⟨rfl, q, hl⟩ | ⟨n, q⟩
      · exact ⟨a, C, fs, e⟩
      · exact ⟨b, C', zs, q⟩
    obtain ⟨_, _, _, f1⟩ := f e1
    obtain ⟨_, _, _, f2⟩ := f e2
    exact r.one j k _ _ _ _ _ _ f1 f2
  · have f : ∀ {j : Nat} {zs : List PV}, (ρ.set i (some (.ins a C fs')))[j]? = some (some (.own zs)) → ρ[j]? = some (some (.own zs)) := fun {j zs} q => by
      rcases set_get q with ⟨rfl, q, hl⟩ | ⟨n, q⟩
      · cases q
      · exact q
    exact r.sep j k us zs b (f e1) (f e2) s1 s2

/-! ### another ground: what a loop walks must stay -/
def join (G H : Hp) : Hp := fun b => match G b with
  | some o => some o
  | none => H b
theorem join_none {G H : Hp} {b : Addr} (h : join G H b = none) : G b = none ∧ H b = none := by
  unfold join at h
  cases q : G b with
  | some o => rw [q] at h; cases h
  | none => rw [q] at h; exact ⟨rfl, h⟩
theorem join_of {G H : Hp} {b : Addr} (g : G b = none) (h : H b = none) : join G H b = none := by unfold join; rw [g]; exact h
theorem join_some {G H : Hp} {b : Addr} {o : HO} (h : join G H b = some o) : G b = some o ∨ (G b = none ∧ H b = some o) := by
  unfold join at h
  cases q : G b with
  | some o => rw [q] at h; exact .inl h
  | none => rw [q] at h; exact .inr ⟨rfl, h⟩
theorem RelS.rebase (r : RelS K Gb Hb ρ σ G H) : RelS K G (join G Hb) ρ σ G H where
  step := ⟨fun b o e => (join_some e).elim (r.gh _ _) fun z => r.step.hh _ _ z.2, Same.refl _, r.gh, fun a o e n => by rw [e] at n; cases n⟩
  len := r.len
  val := r.val
  own := fun i xs e => by
    obtain ⟨a, vs, h1, h2, h3, h4, h5⟩ := r.own i xs e
    exact ⟨a, vs, h1, h2, h3, h4, join_of h4 h5⟩
  ins := fun i a C fs e => by
    obtain ⟨dx, gs, h1, h2, h3, h4, h5⟩ := r.ins i a C fs e
    exact ⟨dx, gs, h1, h2, h3, h4, join_of h4 h5⟩
  exc := r.exc
  one := r.one
  sep := r.sep
theorem Step.unbase {G2 H2 : Hp} (s : Step Gb Hb G H) (t : Step G (join G Hb) G2 H2) : Step Gb Hb G2 H2 where
  hh := fun b o e => by
    cases q : G b with
    | some u =>
      have h1 := s.hh _ _ e
      have h2 := s.gh _ _ q
      rw [h1] at h2
      cases h2
      exact t.gh _ _ (t.gg _ _ q)
    | none => exact t.hh _ _ (by unfold join; rw [q]; exact e)
  gg := s.gg.trans t.gg
  gh := t.gh
  new := fun b o e n => by
    cases q : G b with
    | some u => exact s.new b u q n
    | none => exact (join_none (t.new b o e q)).2
theorem RelS.unbase {ρ' : PSt} {σ' : L2.St} {G2 H2 : Hp} (s : Step Gb Hb G H) (r : RelS K G (join G Hb) ρ' σ' G2 H2) : RelS K Gb Hb ρ' σ' G2 H2 where
  step := s.unbase r.step
  len := r.len
  val := r.val
  own := fun i xs e => by
    obtain ⟨a, vs, h1, h2, h3, h4, h5⟩ := r.own i xs e
    exact ⟨a, vs, h1, h2, h3, h4, (join_none h5).2⟩
  ins := fun i a C fs e => by
    obtain ⟨dx, gs, h1, h2, h3, h4, h5⟩ := r.ins i a C fs e
    exact ⟨dx, gs, h1, h2, h3, h4, (join_none h5).2⟩
  exc := r.exc
  one := r.one
  sep := r.sep
end
end QL

set_option maxHeartbeats 2000000
namespace QL
open PySem PySem.Spec PyProof.Rows L2

/-! ### weaker readings -/
section
variable {X : Cx}
theorem PE.imp {e : Expr} {t t' : TE} (h : PE X e t) (i : ∀ σ H Q, t' σ H Q → t σ H Q) : PE X e t' := ⟨fun pins s σ H Q I w => h.run pins s σ H Q I (i σ H Q w)⟩
theorem PT.imp {e : Expr} {t t' : TT} (h : PT X e t) (i : ∀ σ H Q, t' σ H Q → t σ H Q) : PT X e t' := ⟨fun pins s σ H Q I w => h.run pins s σ H Q I (i σ H Q w)⟩
theorem PW.imp {e : Expr} {t t' : TT} (h : PW X e t) (i : ∀ σ H Q, t' σ H Q → t σ H Q) : PW X e t' := ⟨fun wh pins s σ H Q I w => h.run wh pins s σ H Q I (i σ H Q w)⟩
theorem PA.imp {e : List Expr} {t t' : TA} (h : PA X e t) (i : ∀ σ H Q, t' σ H Q → t σ H Q) : PA X e t' := ⟨fun pos pins s σ H Q I w => h.run pos pins s σ H Q I (i σ H Q w)⟩
theorem PS.imp {e : Stmt} {t t' : TS} (h : PS X e t) (i : ∀ D σ H, t' D σ H → t D σ H) : PS X e t' := ⟨fun pins s σ H D I w => h.run pins s σ H D I (i D σ H w)⟩
theorem PSs.imp {e : List Stmt} {t t' : TS} (h : PSs X e t) (i : ∀ D σ H, t' D σ H → t D σ H) : PSs X e t' := ⟨fun pins s σ H D I w => h.run pins s σ H D I (i D σ H w)⟩
end

/-! ### the pure judgements -/
abbrev Y := PX → Prop
abbrev QE := PSt → Y → (PV → Prop) → Prop
abbrev QT := PSt → Y → (Bool → Prop) → Prop
abbrev QA := PSt → Y → (List PV → Prop) → Prop
/-- what is wished of an exception that leaves here -/
def ExOk (K : PySem.W.Frag) (W : WX) (σ : L2.St) (G H : Hp) (y : Y) : Prop := ∀ p d G' H', Step G H G' H' → RepX K G' H' p d → y p → W (.ref p.C) (some d) σ H'
theorem ExOk.mono {K : PySem.W.Frag} {W : WX} {σ : L2.St} {G H G' H' : Hp} {y : Y} (h : ExOk K W σ G H y) (s : Step G H G' H') : ExOk K W σ G' H' y := fun p d G2 H2 s2 r q => h p d G2 H2 (s.trans s2) r q

def tJ (K : PySem.W.Frag) (W : WX) (q : QE) : TE := fun σ H Qh => ∃ (Gb Hb : Hp) (ρ : PSt) (G : Hp) (y : Y) (Q : PV → Prop), RelS K Gb Hb ρ σ G H ∧ ExOk K W σ G H y ∧ q ρ y Q ∧ ∀ x v G' H', Step G H G' H' → Rep K G' x v → Q x → Qh v H'
def tTJ (K : PySem.W.Frag) (W : WX) (q : QT) : TT := fun σ H Qh => ∃ (Gb Hb : Hp) (ρ : PSt) (G : Hp) (y : Y) (Q : Bool → Prop), RelS K Gb Hb ρ σ G H ∧ ExOk K W σ G H y ∧ q ρ y Q ∧ ∀ b G' H', Step G H G' H' → Q b → Qh b H'
def tAJ (K : PySem.W.Frag) (W : WX) (q : QA) : TA := fun σ H Qh => ∃ (Gb Hb : Hp) (ρ : PSt) (G : Hp) (y : Y) (Q : List PV → Prop), RelS K Gb Hb ρ σ G H ∧ ExOk K W σ G H y ∧ q ρ y Q ∧ ∀ xs vs G' H', Step G H G' H' → Reps K G' xs vs → Q xs → Qh vs H'
abbrev JE (X : Cx) (W : WX) (e : Expr) (q : QE) : Prop := PE X e (tJ X.K W q)
abbrev JT (X : Cx) (W : WX) (e : Expr) (q : QT) : Prop := PT X e (tTJ X.K W q)
abbrev JW (X : Cx) (W : WX) (e : Expr) (q : QT) : Prop := PW X e (tTJ X.K W q)
abbrev JA (X : Cx) (W : WX) (e : List Expr) (q : QA) : Prop := PA X e (tAJ X.K W q)

/-! ### names, constants -/
def qVar (i : Nat) : QE := fun ρ _ Q => match ρ[i]? with
  | some (some (.pv x)) => Q x
  | _ => False
def qC (x : PV) : QE := fun _ _ Q => Q x
section
variable {X : Cx} {W : WX}
theorem je_var (i : Nat) {x : Str} {pos : Pos} (hN : X.N[i]? = some x := by rfl) (hv : Vis X.env.scope x := by first | exact Or.inl rfl | exact Or.inr (Or.inl rfl) | exact Or.inr (Or.inr rfl)) (hd : (x == ("__debug__" : Str)) = false := by decide)
    (hcd : (x == ("__classdict__" : Str)) = false := by decide) : JE X W (.Name x pos) (qVar i) := by
  refine PE.imp (pe_var hN hv hd hcd) fun σ H Qh ⟨Gb, Hb, ρ, G, y, Q, R, _, q, k⟩ => ?_
  unfold qVar at q
  split at q
  · rename_i x e
    obtain ⟨v, h1, h2⟩ := R.val i x e
    exact ⟨v, h1, k x v G H (.refl R.gh) h2 q⟩
  · exact q.elim
theorem je_c {e : Expr} {x : PV} {v : V} (h : PE X e (tC v)) (r : ∀ G, Rep X.K G x v) : JE X W e (qC x) := PE.imp h fun σ H Qh ⟨Gb, Hb, ρ, G, y, Q, R, _, q, k⟩ => k x v G H (.refl R.gh) (r G) q
theorem je_int {i j pos} : JE X W (.Constant (.int i) j pos) (qC (.int i)) := je_c pe_int fun _ => .int i
theorem je_bl {b j pos} : JE X W (.Constant (.bool b) j pos) (qC (.bl b)) := je_c pe_bl fun _ => .bl b
theorem je_non {j pos} : JE X W (.Constant .none j pos) (qC .non) := je_c pe_non fun _ => .non
theorem je_str {x j pos} : JE X W (.Constant (.str x) j pos) (qC (.str x)) := je_c pe_str fun _ => .str x
/-- a class or a def of the module as a value -/
theorem je_cls {x : Str} {a : Addr} {pos : Pos} (hm : X.mg x = some (.ref a)) (hg : Gl X x := by rfl) (hd : (x == ("__debug__" : Str)) = false := by decide) : JE X W (.Name x pos) (qC (.adr a)) := je_c (pe_glob (v := .ref a) hg hm rfl hd) fun _ => .adr a
/-- a constant int of the module -/
theorem je_gint {x : Str} {i : Int} {t : Tok} {pos : Pos} (hm : X.mg x = some (.int i t)) (hg : Gl X x := by rfl) (hd : (x == ("__debug__" : Str)) = false := by decide) : JE X W (.Name x pos) (qC (.int i)) := je_c (pe_glob (v := .int i) hg hm ⟨t, rfl⟩ hd) fun _ => .int i
theorem je_gstr {x : Str} {i : Str} {t : Tok} {pos : Pos} (hm : X.mg x = some (.str i t)) (hg : Gl X x := by rfl) (hd : (x == ("__debug__" : Str)) = false := by decide) : JE X W (.Name x pos) (qC (.str i)) := je_c (pe_glob (v := .str i) hg hm ⟨t, rfl⟩ hd) fun _ => .str i
theorem je_ty {x : Str} {n : String} {pos : Pos} (hm : X.mg x = none) (hv : bootBuiltins x = some (.type n) := by decide +kernel) (hg : Gl X x := by rfl) (hn : x ≠ "__name__" := by decide) (hd : (x == ("__debug__" : Str)) = false := by decide) : JE X W (.Name x pos) (qC (.ty n)) :=
  je_c (pe_bltn (v := .ty n) hg hm hv rfl hn hd) fun _ => .ty n
end

/-! ### operators on two values -/
abbrev Q2 := PV → PV → (PV → Prop) → Prop
def qOp (r : Q2) (qa qb : QE) : QE := fun ρ y Q => qa ρ y fun x => qb ρ y fun z => r x z Q
/-- r' says enough for r -/
def Snd2 (K : PySem.W.Frag) (r : R2) (r' : Q2) : Prop := ∀ x z v w G H (Q : PV → Prop) (Qh : VK), Same G H → Rep K G x v → Rep K G z w → r' x z Q → (∀ x v G' H', Step G H G' H' → Rep K G' x v → Q x → Qh v H') → r v w H Qh
section
variable {X : Cx} {W : WX} {a b : Expr} {qa qb : QE} {pos : Pos}
theorem snd2 {K : PySem.W.Frag} {r : R2} {r' : Q2} (s : Snd2 K r r') {σ : L2.St} {H : Hp} {Qh : VK} (h : tJ K W (qOp r' qa qb) σ H Qh) : tOp r (tJ K W qa) (tJ K W qb) σ H Qh := by
  obtain ⟨Gb, Hb, ρ, G, y, Q, R, E, q, k⟩ := h
  refine ⟨Gb, Hb, ρ, G, y, _, R, E, q, fun x v G1 H1 s1 r1 q1 => ?_⟩
  refine ⟨Gb, Hb, ρ, G1, y, _, R.mono s1, E.mono s1, q1, fun z w G2 H2 s2 r2 q2 => ?_⟩
  exact s x z v w G2 H2 Q Qh s2.gh (r1.mono s2.gg) r2 q2 fun x' v' G3 H3 s3 r3 q3 => k x' v' G3 H3 ((s1.trans s2).trans s3) r3 q3
theorem je_op {op : Operator} {r : R2} {r' : Q2} (ho : OpR X (binaryOp op) r) (s : Snd2 X.K r r') (ha : JE X W a qa) (hb : JE X W b qb) : JE X W (.BinOp a op b pos) (qOp r' qa qb) := PE.imp (pe_op ho ha hb) fun σ H Q h => snd2 s h
theorem je_cmp {op : CmpOp} {r : R2} {r' : Q2} (ho : OpR X (compareOp op) r) (s : Snd2 X.K r r') (ha : JE X W a qa) (hb : JE X W b qb) (hm : behindInMarks op b = false) : JE X W (.Compare a [op] [b] pos) (qOp r' qa qb) := PE.imp (pe_cmpR ho ha hb hm) fun σ H Q h => snd2 s h
theorem je_ixR {r : R2} {r' : Q2} (ho : IxR X r) (s : Snd2 X.K r r') (ha : JE X W a qa) (hb : JE X W b qb) (hs : PlainIx b := by exact fun _ _ => rfl) : JE X W (.Subscript a b pos) (qOp r' qa qb) := PE.imp (pe_ix ho ha hb hs) fun σ H Q h => snd2 s h
/-- two ints -/
def qI (C : Int → Int → Prop) (g : Int → Int → PV) : Q2 := fun x z Q => match x, z with
  | .int i, .int j => C i j ∧ Q (g i j)
  | _, _ => False
def qI0 (g : Int → Int → PV) : Q2 := fun x z Q => match x, z with
  | .int i, .int j => Q (g i j)
  | _, _ => False
theorem rep_int {K : PySem.W.Frag} {G : Hp} {i : Int} {v : V} (h : Rep K G (.int i) v) : v = .int i := by cases h; rfl
theorem rep_bl {K : PySem.W.Frag} {G : Hp} {i : Bool} {v : V} (h : Rep K G (.bl i) v) : v = .bl i := by cases h; rfl
theorem rep_str {K : PySem.W.Frag} {G : Hp} {i : Str} {v : V} (h : Rep K G (.str i) v) : v = .str i := by cases h; rfl
theorem rep_non {K : PySem.W.Frag} {G : Hp} {v : V} (h : Rep K G .non v) : v = .non := by cases h; rfl
theorem snd_I {K : PySem.W.Frag} {C : Int → Int → Prop} {g : Int → Int → V} {g' : Int → Int → PV} (hg : ∀ G i j, Rep K G (g' i j) (g i j)) : Snd2 K (rI C g) (qI C g') := by
  intro x z v w G H Q Qh hs rx rz q k
  unfold qI at q
  split at q
  · rename_i i j
    exact ⟨i, j, rep_int rx, rep_int rz, q.1, k _ _ G H (.refl hs) (hg G i j) q.2⟩
  · exact q.elim
theorem snd_I0 {K : PySem.W.Frag} {g : Int → Int → V} {g' : Int → Int → PV} (hg : ∀ G i j, Rep K G (g' i j) (g i j)) : Snd2 K (rI0 g) (qI0 g') := by
  intro x z v w G H Q Qh hs rx rz q k
  unfold qI0 at q
  split at q
  · rename_i i j
    exact ⟨i, j, rep_int rx, rep_int rz, k _ _ G H (.refl hs) (hg G i j) q⟩
  · exact q.elim
abbrev iAdd : Q2 := qI0 fun i j => .int (i + j)
abbrev iSub : Q2 := qI0 fun i j => .int (i - j)
abbrev iMul : Q2 := qI (fun i j => CMul i j ∨ CMulW i j) fun i j => .int (i * j)
/-- // by a divisor that is not 0 and below 2 ^ 9000 -/
def CDivG (_ j : Int) : Prop := j ≠ 0 ∧ j.natAbs.log2 < 9000
abbrev iDiv : Q2 := qI CDivG fun i j => .int (i.fdiv j)
abbrev iMod : Q2 := qI (fun _ j => 0 < j) fun i j => .int (i % j)
abbrev iLt : Q2 := qI0 fun i j => .bl (decide (i < j))
abbrev iLe : Q2 := qI0 fun i j => .bl (decide (i ≤ j))
abbrev iGt : Q2 := qI0 fun i j => .bl (decide (j < i))
abbrev iGe : Q2 := qI0 fun i j => .bl (decide (j ≤ i))
/-- a power whose bits are few -/
def CPowW (i j : Int) : Prop := 0 ≤ j ∧ (Builtin.Int.intBits i : Int) * j ≤ 2 ^ 27
abbrev iPow : Q2 := qI CPowW fun i j => .int (i ^ j.toNat)
theorem op_mulA : OpR X (binaryOp .Mult) (rI (fun i j => CMul i j ∨ CMulW i j) fun i j => .int (i * j)) := opI fun _ _ _ _ _ _ _ hc q => mul_int q (hc.elim CMul.ok CMulW.ok)
theorem op_divG : OpR X (binaryOp .FloorDiv) (rI CDivG fun i j => .int (i.fdiv j)) := opI fun _ _ _ _ _ _ _ hc q => floordiv_int hc.1 q (.inl (PyProof.noPylong_of_log2 hc.2))
theorem op_powW : OpR X (binaryOp .Pow) (rI CPowW fun i j => .int (i ^ j.toNat)) := opI fun _ _ _ _ _ _ _ hc q => pow_int hc.1 hc.2 q
theorem je_add (ha : JE X W a qa) (hb : JE X W b qb) : JE X W (.BinOp a .Add b pos) (qOp iAdd qa qb) := je_op op_add (snd_I0 fun _ _ _ => .int _) ha hb
theorem je_sub (ha : JE X W a qa) (hb : JE X W b qb) : JE X W (.BinOp a .Sub b pos) (qOp iSub qa qb) := je_op op_sub (snd_I0 fun _ _ _ => .int _) ha hb
theorem je_mul (ha : JE X W a qa) (hb : JE X W b qb) : JE X W (.BinOp a .Mult b pos) (qOp iMul qa qb) := je_op op_mulA (snd_I fun _ _ _ => .int _) ha hb
theorem je_div (ha : JE X W a qa) (hb : JE X W b qb) : JE X W (.BinOp a .FloorDiv b pos) (qOp iDiv qa qb) := je_op op_divG (snd_I fun _ _ _ => .int _) ha hb
theorem je_mod (ha : JE X W a qa) (hb : JE X W b qb) : JE X W (.BinOp a .Mod b pos) (qOp iMod qa qb) := je_op op_mod (snd_I fun _ _ _ => .int _) ha hb
theorem je_pow (ha : JE X W a qa) (hb : JE X W b qb) : JE X W (.BinOp a .Pow b pos) (qOp iPow qa qb) := je_op op_powW (snd_I fun _ _ _ => .int _) ha hb
theorem je_lt (ha : JE X W a qa) (hb : JE X W b qb) : JE X W (.Compare a [.Lt] [b] pos) (qOp iLt qa qb) := je_cmp op_lt (snd_I0 fun _ _ _ => .bl _) ha hb (nomark _)
theorem je_le (ha : JE X W a qa) (hb : JE X W b qb) : JE X W (.Compare a [.LtE] [b] pos) (qOp iLe qa qb) := je_cmp op_le (snd_I0 fun _ _ _ => .bl _) ha hb (nomark _)
theorem je_gt (ha : JE X W a qa) (hb : JE X W b qb) : JE X W (.Compare a [.Gt] [b] pos) (qOp iGt qa qb) := je_cmp op_gt (snd_I0 fun _ _ _ => .bl _) ha hb (nomark _)
theorem je_ge (ha : JE X W a qa) (hb : JE X W b qb) : JE X W (.Compare a [.GtE] [b] pos) (qOp iGe qa qb) := je_cmp op_ge (snd_I0 fun _ _ _ => .bl _) ha hb (nomark _)
/-- == of two ints, two texts, two truth values -/
def qEq (neg : Bool) : Q2 := fun x z Q => match x, z with
  | .int i, .int j => Q (.bl (neg ^^ (i == j)))
  | .str i, .str j => Q (.bl (neg ^^ (i == j)))
  | .bl i, .bl j => Q (.bl (neg ^^ (i == j)))
  | _, _ => False
theorem snd_eq {K : PySem.W.Frag} : Snd2 K rEq (qEq false) := by
  intro x z v w G H Q Qh hs rx rz q k
  unfold qEq at q
  split at q
  · cases rx; cases rz
    refine ⟨rfl, ?_⟩
    rw [dec_int]
    exact k _ _ G H (.refl hs) (.bl _) (by simpa using q)
  · cases rx; cases rz
    refine ⟨rfl, ?_⟩
    rw [dec_str]
    exact k _ _ G H (.refl hs) (.bl _) (by simpa using q)
  · cases rx; cases rz
    refine ⟨rfl, ?_⟩
    rw [dec_bl]
    exact k _ _ G H (.refl hs) (.bl _) (by simpa using q)
  · exact q.elim
theorem snd_ne {K : PySem.W.Frag} : Snd2 K rNe (qEq true) := by
  intro x z v w G H Q Qh hs rx rz q k
  unfold qEq at q
  split at q
  · cases rx; cases rz
    refine ⟨rfl, ?_⟩
    rw [dec_int]
    exact k _ _ G H (.refl hs) (.bl _) (by simpa using q)
  · cases rx; cases rz
    refine ⟨rfl, ?_⟩
    rw [dec_str]
    exact k _ _ G H (.refl hs) (.bl _) (by simpa using q)
  · cases rx; cases rz
    refine ⟨rfl, ?_⟩
    rw [dec_bl]
    exact k _ _ G H (.refl hs) (.bl _) (by simpa using q)
  · exact q.elim
theorem je_eq (ha : JE X W a qa) (hb : JE X W b qb) : JE X W (.Compare a [.Eq] [b] pos) (qOp (qEq false) qa qb) := je_cmp op_eq snd_eq ha hb (nomark _)
theorem je_ne (ha : JE X W a qa) (hb : JE X W b qb) : JE X W (.Compare a [.NotEq] [b] pos) (qOp (qEq true) qa qb) := je_cmp op_ne snd_ne ha hb (nomark _)
/-- x is None, x is not None -/
def qIsN (neg : Bool) : Q2 := fun x z Q => match x, z with
  | .non, .non => Q (.bl (!neg))
  | .lst _, .non => Q (.bl neg)
  | .tup _, .non => Q (.bl neg)
  | .obj _ _, .non => Q (.bl neg)
  | .int _, .non => Q (.bl neg)
  | .str _, .non => Q (.bl neg)
  | .bl _, .non => Q (.bl neg)
  | _, _ => False
theorem snd_isN {K : PySem.W.Frag} : Snd2 K (fun x y H Q => y = .non ∧ Q (.bl (decide (x = .non))) H) (qIsN false) := by
  intro x z v w G H Q Qh hs rx rz q k
  unfold qIsN at q
  split at q <;> first | exact q.elim | (cases rx; cases rz; exact ⟨rfl, k _ _ G H (.refl hs) (.bl _) q⟩)
theorem snd_notN {K : PySem.W.Frag} : Snd2 K (fun x y H Q => y = .non ∧ Q (.bl (!decide (x = .non))) H) (qIsN true) := by
  intro x z v w G H Q Qh hs rx rz q k
  unfold qIsN at q
  split at q <;> first | exact q.elim | (cases rx; cases rz; exact ⟨rfl, k _ _ G H (.refl hs) (.bl _) q⟩)
theorem je_isN (ha : JE X W a qa) (hb : JE X W b qb) : JE X W (.Compare a [.Is] [b] pos) (qOp (qIsN false) qa qb) := je_cmp op_isN snd_isN ha hb (nomark _)
theorem je_notN (ha : JE X W a qa) (hb : JE X W b qb) : JE X W (.Compare a [.IsNot] [b] pos) (qOp (qIsN true) qa qb) := je_cmp op_notN snd_notN ha hb (nomark _)
/-- xs[i] -/
def qIx : Q2 := fun x z Q => match x, z with
  | .lst xs, .int i => ∃ u, atI xs i = some u ∧ Q u
  | .tup xs, .int i => ∃ u, atI xs i = some u ∧ Q u
  | _, _ => False
theorem atI_rep {K : PySem.W.Frag} {G : Hp} {xs : List PV} {vs : List V} {i : Int} {u : PV} (r : Reps K G xs vs) (h : atI xs i = some u) : ∃ v, atI vs i = some v ∧ Rep K G u v := by
  unfold atI at h ⊢
  rw [← r.length]
  cases e : ixN xs.length i with
  | none => rw [e] at h; cases h
  | some j =>
    rw [e] at h
    exact r.get h
theorem snd_ix {K : PySem.W.Frag} : Snd2 K (rIx K) qIx := by
  intro x z v w G H Q Qh hs rx rz q k
  unfold qIx at q
  split at q
  · obtain ⟨u, hu, q⟩ := q
    cases rx with
    | lst h r =>
      cases rz
      obtain ⟨v', h1, h2⟩ := atI_rep r hu
      exact .inl ⟨_, _, _, v', rfl, rfl, hs.seq h, h1, k _ _ G H (.refl hs) h2 q⟩
  · obtain ⟨u, hu, q⟩ := q
    cases rx with
    | tup h r =>
      cases rz
      obtain ⟨v', h1, h2⟩ := atI_rep r hu
      exact .inr (.inl ⟨_, _, _, v', rfl, rfl, Same.sqT hs h, h1, k _ _ G H (.refl hs) h2 q⟩)
  · exact q.elim
theorem je_ix (ha : JE X W a qa) (hb : JE X W b qb) (hs : PlainIx b := by exact fun _ _ => rfl) : JE X W (.Subscript a b pos) (qOp qIx qa qb) := je_ixR ix_seq snd_ix ha hb hs
end

/-! ### one-place operators, tests -/
def qUn (r : PV → (PV → Prop) → Prop) (qa : QE) : QE := fun ρ y Q => qa ρ y fun x => r x Q
def qNeg : PV → (PV → Prop) → Prop := fun x Q => match x with
  | .int i => Q (.int (-i))
  | _ => False
def qB (qa : QE) : QT := fun ρ y Q => qa ρ y fun x => match x with
  | .bl b => Q b
  | _ => False
def qNotT (q : QT) : QT := fun ρ y Q => q ρ y fun b => Q (!b)
def qAndT (q r : QT) : QT := fun ρ y Q => q ρ y fun b => if b = true then r ρ y Q else Q false
def qOrT (q r : QT) : QT := fun ρ y Q => q ρ y fun b => if b = true then Q true else r ρ y Q
def qAndV (q r : QE) : QE := fun ρ y Q => q ρ y fun x => match x with
  | .bl b => if b = true then r ρ y Q else Q (.bl false)
  | _ => False
def qOrV (q r : QE) : QE := fun ρ y Q => q ρ y fun x => match x with
  | .bl b => if b = true then Q (.bl true) else r ρ y Q
  | _ => False
def qNotV (q : QE) : QE := fun ρ y Q => q ρ y fun x => match x with
  | .bl b => Q (.bl (!b))
  | _ => False
def qIf (c : QT) (q r : QE) : QE := fun ρ y Q => c ρ y fun b => if b = true then q ρ y Q else r ρ y Q
section
variable {X : Cx} {W : WX} {a b c : Expr} {rest : List Expr} {qa qb : QE} {q r : QT} {pos : Pos}
theorem je_neg (ha : JE X W a qa) : JE X W (.UnaryOp .USub a pos) (qUn qNeg qa) := by
  refine PE.imp (pe_un un_neg ha) fun σ H Qh ⟨Gb, Hb, ρ, G, y, Q, R, E, q, k⟩ => ?_
  refine ⟨Gb, Hb, ρ, G, y, _, R, E, q, fun x v G1 H1 s1 r1 q1 => ?_⟩
  unfold qNeg at q1
  split at q1
  · exact ⟨_, rep_int r1, k _ _ G1 H1 s1 (.int _) q1⟩
  · exact q1.elim
theorem jt_val (ha : JE X W a qa) (he : ∀ whole, isTrue a X.env whole = (do let v ← whole; standAt a.pos; holding [v] (truthy v)) := by intro _; rfl) : JT X W a (qB qa) := by
  refine PT.imp (pt_val ha he) fun σ H Qh ⟨Gb, Hb, ρ, G, y, Q, R, E, q, k⟩ => ?_
  refine ⟨Gb, Hb, ρ, G, y, _, R, E, q, fun x v G1 H1 s1 r1 q1 => ?_⟩
  split at q1
  · exact ⟨_, rep_bl r1, k _ G1 H1 s1 q1⟩
  · exact q1.elim
theorem jt_cmp {op : CmpOp} {r : R2} {r' : Q2} (ho : OpR X (compareOp op) r) (s : Snd2 X.K r r') (ha : JE X W a qa) (hb : JE X W b qb) (hm : behindInMarks op b = false) : JT X W (.Compare a [op] [b] pos) (qB (qOp r' qa qb)) := by
  refine PT.imp (pt_cmpR ho ha hb hm) fun σ H Qh ⟨Gb, Hb, ρ, G, y, Q, R, E, q, k⟩ => ?_
  refine snd2 (K := X.K) (W := W) s ⟨Gb, Hb, ρ, G, y, _, R, E, q, fun x v G1 H1 s1 r1 q1 => ?_⟩
  split at q1
  · exact ⟨_, rep_bl r1, k _ G1 H1 s1 q1⟩
  · exact q1.elim
theorem jt_lt (ha : JE X W a qa) (hb : JE X W b qb) : JT X W (.Compare a [.Lt] [b] pos) (qB (qOp iLt qa qb)) := jt_cmp op_lt (snd_I0 fun _ _ _ => .bl _) ha hb (nomark _)
theorem jt_le (ha : JE X W a qa) (hb : JE X W b qb) : JT X W (.Compare a [.LtE] [b] pos) (qB (qOp iLe qa qb)) := jt_cmp op_le (snd_I0 fun _ _ _ => .bl _) ha hb (nomark _)
theorem jt_gt (ha : JE X W a qa) (hb : JE X W b qb) : JT X W (.Compare a [.Gt] [b] pos) (qB (qOp iGt qa qb)) := jt_cmp op_gt (snd_I0 fun _ _ _ => .bl _) ha hb (nomark _)
theorem jt_ge (ha : JE X W a qa) (hb : JE X W b qb) : JT X W (.Compare a [.GtE] [b] pos) (qB (qOp iGe qa qb)) := jt_cmp op_ge (snd_I0 fun _ _ _ => .bl _) ha hb (nomark _)
theorem jt_eq (ha : JE X W a qa) (hb : JE X W b qb) : JT X W (.Compare a [.Eq] [b] pos) (qB (qOp (qEq false) qa qb)) := jt_cmp op_eq snd_eq ha hb (nomark _)
theorem jt_ne (ha : JE X W a qa) (hb : JE X W b qb) : JT X W (.Compare a [.NotEq] [b] pos) (qB (qOp (qEq true) qa qb)) := jt_cmp op_ne snd_ne ha hb (nomark _)
theorem jt_isN (ha : JE X W a qa) (hb : JE X W b qb) : JT X W (.Compare a [.Is] [b] pos) (qB (qOp (qIsN false) qa qb)) := jt_cmp op_isN snd_isN ha hb (nomark _)
theorem jt_notN (ha : JE X W a qa) (hb : JE X W b qb) : JT X W (.Compare a [.IsNot] [b] pos) (qB (qOp (qIsN true) qa qb)) := jt_cmp op_notN snd_notN ha hb (nomark _)
theorem jt_not (h : JT X W a q) : JT X W (.UnaryOp .Not a pos) (qNotT q) := by
  refine PT.imp (pt_not h) fun σ H Qh ⟨Gb, Hb, ρ, G, y, Q, R, E, q, k⟩ => ?_
  exact ⟨Gb, Hb, ρ, G, y, _, R, E, q, fun x G1 H1 s1 q1 => k _ G1 H1 s1 q1⟩
theorem jw_and (h1 : JT X W a q) (h2 : JW X W (.BoolOp .And (b :: rest) pos) r) : JW X W (.BoolOp .And (a :: b :: rest) pos) (qAndT q r) := by
  refine PW.imp (pw_and h1 h2) fun σ H Qh ⟨Gb, Hb, ρ, G, y, Q, R, E, q, k⟩ => ?_
  refine ⟨Gb, Hb, ρ, G, y, _, R, E, q, fun x G1 H1 s1 q1 => ?_⟩
  cases x with
  | true =>
    rw [if_pos rfl] at q1 ⊢
    exact ⟨Gb, Hb, ρ, G1, y, Q, R.mono s1, E.mono s1, q1, fun x G2 H2 s2 q2 => k x G2 H2 (s1.trans s2) q2⟩
  | false =>
    rw [if_neg Bool.false_ne_true] at q1 ⊢
    exact k _ G1 H1 s1 q1
theorem jw_or (h1 : JT X W a q) (h2 : JW X W (.BoolOp .Or (b :: rest) pos) r) : JW X W (.BoolOp .Or (a :: b :: rest) pos) (qOrT q r) := by
  refine PW.imp (pw_or h1 h2) fun σ H Qh ⟨Gb, Hb, ρ, G, y, Q, R, E, q, k⟩ => ?_
  refine ⟨Gb, Hb, ρ, G, y, _, R, E, q, fun x G1 H1 s1 q1 => ?_⟩
  cases x with
  | true =>
    rw [if_pos rfl] at q1 ⊢
    exact k _ G1 H1 s1 q1
  | false =>
    rw [if_neg Bool.false_ne_true] at q1 ⊢
    exact ⟨Gb, Hb, ρ, G1, y, Q, R.mono s1, E.mono s1, q1, fun x G2 H2 s2 q2 => k x G2 H2 (s1.trans s2) q2⟩
theorem jw_and1 (h : JT X W a q) : JW X W (.BoolOp .And [a] pos) q := pw_and1 h
theorem jw_or1 (h : JT X W a q) : JW X W (.BoolOp .Or [a] pos) q := pw_or1 h
theorem jt_w (h : JW X W a q) : JT X W a q := h.pt
theorem je_one {op : BoolOp} (h : JE X W a qa) : JE X W (.BoolOp op [a] pos) qa := pe_one h
theorem je_and (h1 : JE X W a qa) (h2 : JE X W (.BoolOp .And (b :: rest) pos) qb) : JE X W (.BoolOp .And (a :: b :: rest) pos) (qAndV qa qb) := by
  refine PE.imp (pe_and h1 h2) fun σ H Qh ⟨Gb, Hb, ρ, G, y, Q, R, E, q, k⟩ => ?_
  refine ⟨Gb, Hb, ρ, G, y, _, R, E, q, fun x v G1 H1 s1 r1 q1 => ?_⟩
  split at q1
  · rename_i c
    refine ⟨c, rep_bl r1, ?_⟩
    cases c with
    | true =>
      rw [if_pos rfl] at q1 ⊢
      exact ⟨Gb, Hb, ρ, G1, y, Q, R.mono s1, E.mono s1, q1, fun x v G2 H2 s2 r2 q2 => k x v G2 H2 (s1.trans s2) r2 q2⟩
    | false =>
      rw [if_neg Bool.false_ne_true] at q1 ⊢
      exact k _ _ G1 H1 s1 (.bl _) q1
  · exact q1.elim
theorem je_or (h1 : JE X W a qa) (h2 : JE X W (.BoolOp .Or (b :: rest) pos) qb) : JE X W (.BoolOp .Or (a :: b :: rest) pos) (qOrV qa qb) := by
  refine PE.imp (pe_or h1 h2) fun σ H Qh ⟨Gb, Hb, ρ, G, y, Q, R, E, q, k⟩ => ?_
  refine ⟨Gb, Hb, ρ, G, y, _, R, E, q, fun x v G1 H1 s1 r1 q1 => ?_⟩
  split at q1
  · rename_i c
    refine ⟨c, rep_bl r1, ?_⟩
    cases c with
    | true =>
      rw [if_pos rfl] at q1 ⊢
      exact k _ _ G1 H1 s1 (.bl _) q1
    | false =>
      rw [if_neg Bool.false_ne_true] at q1 ⊢
      exact ⟨Gb, Hb, ρ, G1, y, Q, R.mono s1, E.mono s1, q1, fun x v G2 H2 s2 r2 q2 => k x v G2 H2 (s1.trans s2) r2 q2⟩
  · exact q1.elim
theorem je_not (h : JE X W a qa) : JE X W (.UnaryOp .Not a pos) (qNotV qa) := by
  refine PE.imp (pe_not h) fun σ H Qh ⟨Gb, Hb, ρ, G, y, Q, R, E, q, k⟩ => ?_
  refine ⟨Gb, Hb, ρ, G, y, _, R, E, q, fun x v G1 H1 s1 r1 q1 => ?_⟩
  split at q1
  · exact ⟨_, rep_bl r1, k _ _ G1 H1 s1 (.bl _) q1⟩
  · exact q1.elim
theorem je_if (hc : JT X W c q) (h1 : JE X W a qa) (h2 : JE X W b qb) : JE X W (.IfExp c a b pos) (qIf q qa qb) := by
  refine PE.imp (pe_ifExp hc h1 h2) fun σ H Qh ⟨Gb, Hb, ρ, G, y, Q, R, E, q, k⟩ => ?_
  refine ⟨Gb, Hb, ρ, G, y, _, R, E, q, fun x G1 H1 s1 q1 => ?_⟩
  cases x with
  | true =>
    rw [if_pos rfl] at q1 ⊢
    exact ⟨Gb, Hb, ρ, G1, y, Q, R.mono s1, E.mono s1, q1, fun x v G2 H2 s2 r2 q2 => k x v G2 H2 (s1.trans s2) r2 q2⟩
  | false =>
    rw [if_neg Bool.false_ne_true] at q1 ⊢
    exact ⟨Gb, Hb, ρ, G1, y, Q, R.mono s1, E.mono s1, q1, fun x v G2 H2 s2 r2 q2 => k x v G2 H2 (s1.trans s2) r2 q2⟩
end

/-! ### arguments, tuples, lists -/
def qNil : QA := fun _ _ Q => Q []
def qCons (q : QE) (r : QA) : QA := fun ρ y Q => q ρ y fun x => r ρ y fun xs => Q (x :: xs)
def qTup (q : QA) : QE := fun ρ y Q => q ρ y fun xs => xs.length ≤ 1000 ∧ Q (.tup xs)
def qLst (q : QA) : QE := fun ρ y Q => q ρ y fun xs => xs.length ≤ 1000 ∧ Q (.lst xs)
section
variable {X : Cx} {W : WX} {e : Expr} {es : List Expr} {q : QE} {r : QA} {pos : Pos}
theorem ja_nil : JA X W [] qNil := PA.imp pa_nil fun σ H Qh ⟨Gb, Hb, ρ, G, y, Q, R, E, q, k⟩ => k [] [] G H (.refl R.gh) .nil q
theorem ja_cons (h : JE X W e q) (hr : JA X W es r) (hs : starEach (e :: es) X.env = (false, eval e X.env) :: starEach es X.env := by rfl) : JA X W (e :: es) (qCons q r) := by
  refine PA.imp (pa_cons h hr hs) fun σ H Qh ⟨Gb, Hb, ρ, G, y, Q, R, E, q, k⟩ => ?_
  refine ⟨Gb, Hb, ρ, G, y, _, R, E, q, fun x v G1 H1 s1 r1 q1 => ?_⟩
  exact ⟨Gb, Hb, ρ, G1, y, _, R.mono s1, E.mono s1, q1, fun xs vs G2 H2 s2 r2 q2 => k _ _ G2 H2 (s1.trans s2) (.cons (r1.mono s2.gg) r2) q2⟩
theorem le_line {n : Nat} (h : n ≤ 1000) : n ≤ sizeLine := Nat.le_trans h (by decide)
theorem je_tup {x1} (h : JA X W es r) : JE X W (.Tuple es x1 pos) (qTup r) := by
  refine PE.imp (pe_tup h) fun σ H Qh ⟨Gb, Hb, ρ, G, y, Q, R, E, q, k⟩ => ?_
  refine ⟨Gb, Hb, ρ, G, y, _, R, E, q, fun xs vs G1 H1 s1 r1 q1 => ⟨?_, fun p hp => ?_⟩⟩
  · rw [← r1.length]; exact le_line q1.1
  · have st : Step G1 H1 (upd G1 p (.tup vs)) (upd H1 p (.tup vs)) := Step.alloc s1.gh hp
    exact k _ _ _ _ (s1.trans st) (.tup (SqT.of upd_same) (r1.mono st.gg)) q1.2
theorem je_lst (h : JA X W es r) : JE X W (.List es pos) (qLst r) := by
  refine PE.imp (pe_lst h) fun σ H Qh ⟨Gb, Hb, ρ, G, y, Q, R, E, q, k⟩ => ?_
  refine ⟨Gb, Hb, ρ, G, y, _, R, E, q, fun xs vs G1 H1 s1 r1 q1 => ⟨?_, fun p hp => ?_⟩⟩
  · rw [← r1.length]; exact le_line q1.1
  · have st : Step G1 H1 (upd G1 p (.lst vs)) (upd H1 p (.lst vs)) := Step.alloc s1.gh hp
    exact k _ _ _ _ (s1.trans st) (.lst (SqL.of upd_same) (r1.mono st.gg)) q1.2
end

/-! ### slices -/
def qPart (q : QE) : PSt → Y → (Option Int → Prop) → Prop := fun ρ y Q => q ρ y fun x => match x with
  | .int i => Q (some i)
  | _ => False
def qNoPart : PSt → Y → (Option Int → Prop) → Prop := fun _ _ Q => Q none
abbrev QO := PSt → Y → (Option Int → Prop) → Prop
def tOJ (K : PySem.W.Frag) (W : WX) (q : QO) : TO := fun σ H Qh => ∃ (Gb Hb : Hp) (ρ : PSt) (G : Hp) (y : Y) (Q : Option Int → Prop), RelS K Gb Hb ρ σ G H ∧ ExOk K W σ G H y ∧ q ρ y Q ∧ ∀ o G' H', Step G H G' H' → Q o → Qh o H'
abbrev JO (X : Cx) (W : WX) (e : Option Expr) (q : QO) : Prop := PO X e (tOJ X.K W q)
def cutP (xs : List PV) (lo hi : Option Int) : List PV := (xs.drop (HT.sIx xs.length 0 lo)).take (HT.sIx xs.length xs.length hi - HT.sIx xs.length 0 lo)
def qSl (q : QE) (ql qh : QO) : QE := fun ρ y Q => q ρ y fun x => ql ρ y fun lo => qh ρ y fun hi => match x with
  | .lst xs => Q (.lst (cutP xs lo hi))
  | _ => False
theorem PO.imp {X : Cx} {e : Option Expr} {t t' : TO} (h : PO X e t) (i : ∀ σ H Q, t' σ H Q → t σ H Q) : PO X e t' := by
  obtain ⟨r⟩ := h
  exact ⟨fun pins s σ H Q I w => r pins s σ H Q I (i σ H Q w)⟩
section
variable {X : Cx} {W : WX} {e lo hi : Expr} {q : QE} {ql qh : QO} {pos p2 : Pos}
theorem jo_none : JO X W none qNoPart := PO.imp po_none fun σ H Qh ⟨Gb, Hb, ρ, G, y, Q, R, E, q, k⟩ => k none G H (.refl R.gh) q
theorem jo_some (h : JE X W e q) : JO X W (some e) (qPart q) := by
  refine PO.imp (po_some h) fun σ H Qh ⟨Gb, Hb, ρ, G, y, Q, R, E, q, k⟩ => ?_
  refine ⟨Gb, Hb, ρ, G, y, _, R, E, q, fun x v G1 H1 s1 r1 q1 => ?_⟩
  split at q1
  · exact ⟨_, rep_int r1, k _ G1 H1 s1 q1⟩
  · exact q1.elim
theorem reps_cut {K : PySem.W.Frag} {G : Hp} {xs : List PV} {vs : List V} (r : Reps K G xs vs) (lo hi : Option Int) : Reps K G (cutP xs lo hi) (cutV vs lo hi) := by
  unfold cutP cutV
  rw [r.length]
  exact (r.drop _).take _
theorem je_sl {lo hi : Option Expr} (h : JE X W e q) (hl : JO X W lo ql) (hh : JO X W hi qh) : JE X W (.Subscript e (.Slice lo hi none p2) pos) (qSl q ql qh) := by
  refine PE.imp (pe_slice sl_list h hl hh) fun σ H Qh ⟨Gb, Hb, ρ, G, y, Q, R, E, q, k⟩ => ?_
  refine ⟨Gb, Hb, ρ, G, y, _, R, E, q, fun x v G1 H1 s1 r1 q1 => ?_⟩
  refine ⟨Gb, Hb, ρ, G1, y, _, R.mono s1, E.mono s1, q1, fun lo G2 H2 s2 q2 => ?_⟩
  refine ⟨Gb, Hb, ρ, G2, y, _, (R.mono s1).mono s2, (E.mono s1).mono s2, q2, fun hi G3 H3 s3 q3 => ?_⟩
  split at q3
  · cases r1 with
    | @lst a vs xs hq hr =>
      refine ⟨_, _, rfl, s3.gh.seq (s3.gg.seq (s2.gg.seq hq)), fun p hp => ?_⟩
      have st : Step G3 H3 (upd G3 p (.lst (cutV vs lo hi))) (upd H3 p (.lst (cutV vs lo hi))) := Step.alloc s3.gh hp
      exact k _ _ _ _ (((s1.trans s2).trans s3).trans st) (.lst (SqL.of upd_same) (((reps_cut hr lo hi).mono (s2.gg.trans s3.gg)).mono st.gg)) q3
  · exact q3.elim
end
end QL

set_option maxHeartbeats 2000000
namespace QL
open PySem PySem.Spec PyProof.Rows L2

/-! ### statements -/
/-- what is wanted behind a statement -/
structure QD where
  nx : PSt → Prop
  rt : PV → Prop
  bk : PSt → Prop := fun _ => False
  ct : PSt → Prop := fun _ => False
  ex : PSt → PX → Prop
abbrev QS := QD → PSt → Prop
structure Mt (K : PySem.W.Frag) (W : WX) (Gb Hb : Hp) (D : QD) (Dh : Ends) : Prop where
  nx : ∀ ρ σ G H, RelS K Gb Hb ρ σ G H → D.nx ρ → Dh.nx σ H
  rt : ∀ x v G H, Step Gb Hb G H → Rep K G x v → D.rt x → Dh.rt v H
  bk : ∀ ρ σ G H, RelS K Gb Hb ρ σ G H → D.bk ρ → Dh.bk σ H
  ct : ∀ ρ σ G H, RelS K Gb Hb ρ σ G H → D.ct ρ → Dh.ct σ H
  ex : ∀ ρ σ G H p d, RelS K Gb Hb ρ σ G H → RepX K G H p d → D.ex ρ p → W (.ref p.C) (some d) σ H
def tSJ (K : PySem.W.Frag) (W : WX) (q : QS) : TS := fun Dh σ H => ∃ (Gb Hb : Hp) (ρ : PSt) (G : Hp) (D : QD), RelS K Gb Hb ρ σ G H ∧ Mt K W Gb Hb D Dh ∧ q D ρ
abbrev JS (X : Cx) (W : WX) (e : Stmt) (q : QS) : Prop := PS X e (tSJ X.K W q)
abbrev JSs (X : Cx) (W : WX) (e : List Stmt) (q : QS) : Prop := PSs X e (tSJ X.K W q)
section
variable {K : PySem.W.Frag} {W : WX} {Gb Hb G H : Hp} {D : QD} {Dh : Ends} {ρ : PSt} {σ : L2.St}
theorem Mt.exok (M : Mt K W Gb Hb D Dh) (R : RelS K Gb Hb ρ σ G H) : ExOk K W σ G H (D.ex ρ) := fun p d G' H' s r q => M.ex ρ σ G' H' p d (R.mono s) r q
theorem Mt.rebase (M : Mt K W Gb Hb D Dh) (s : Step Gb Hb G H) : Mt K W G (join G Hb) D Dh :=
  ⟨fun ρ σ G' H' R q => M.nx ρ σ G' H' (R.unbase s) q, fun x v G' H' t r q => M.rt x v G' H' (s.unbase t) r q, fun ρ σ G' H' R q => M.bk ρ σ G' H' (R.unbase s) q, fun ρ σ G' H' R q => M.ct ρ σ G' H' (R.unbase s) q,
   fun ρ σ G' H' p d R r q => M.ex ρ σ G' H' p d (R.unbase s) r q⟩
end

def qNext : QS := fun D ρ => D.nx ρ
def qSeq (q r : QS) : QS := fun D ρ => q { D with nx := fun ρ' => r D ρ' } ρ
/-- q, then r, with what holds between them -/
def qCut (q r : QS) : QS := fun D ρ => ∃ I : PSt → Prop, q { D with nx := I } ρ ∧ ∀ ρ', I ρ' → r D ρ'
def qBreak : QS := fun D ρ => D.bk ρ
def qCont : QS := fun D ρ => D.ct ρ
def qDrop (q : QE) : QS := fun D ρ => q ρ (D.ex ρ) fun _ => D.nx ρ
def qRet (q : QE) : QS := fun D ρ => q ρ (D.ex ρ) D.rt
def qRetN : QS := fun D _ => D.rt .non
def qIfS (c : QT) (q r : QS) : QS := fun D ρ => c ρ (D.ex ρ) fun b => if b = true then q D ρ else r D ρ
def qNever : QS := fun _ _ => False
def qSet (i : Nat) (q : QE) : QS := fun D ρ => q ρ (D.ex ρ) fun x => D.nx (ρ.set i (some (.pv x)))
/-- x = [..], a list that the def will change -/
def qOwn (i : Nat) (q : QA) : QS := fun D ρ => q ρ (D.ex ρ) fun xs => xs.length ≤ 1000 ∧ D.nx (ρ.set i (some (.own xs)))
/-- from here on the list at slot i is a value -/
def qFreeze (i : Nat) (q : QS) : QS := fun D ρ => match ρ[i]? with
  | some (some (.own xs)) => q D (ρ.set i (some (.pv (.lst xs))))
  | _ => False
/-- x.append(e), x one's own list -/
def qApp (i : Nat) (q : QE) : QS := fun D ρ => match ρ[i]? with
  | some (some (.own xs)) => xs.length < 10000 ∧ q ρ (D.ex ρ) fun x => D.nx (ρ.set i (some (.own (xs ++ [x]))))
  | _ => False
/-- x[k] = e, x one's own list -/
def qSetIx (i : Nat) (qk q : QE) : QS := fun D ρ => match ρ[i]? with
  | some (some (.own xs)) => q ρ (D.ex ρ) fun x => qk ρ (D.ex ρ) fun k => match k with
    | .int k => ∃ j, ixN xs.length k = some j ∧ D.nx (ρ.set i (some (.own (xs.set j x))))
    | _ => False
  | _ => False
/-- a, b = e, f -/
def qPar (i j : Nat) (q : QA) : QS := fun D ρ => q ρ (D.ex ρ) fun xs => match xs with
  | [x, z] => D.nx ((ρ.set i (some (.pv x))).set j (some (.pv z)))
  | _ => False
def setAll : PSt → List Nat → List PV → PSt
  | ρ, i :: is, x :: xs => setAll (ρ.set i (some (.pv x))) is xs
  | ρ, _, _ => ρ
/-- (a, b, ..) = a tuple or a list -/
def qUnp (is : List Nat) (q : QE) : QS := fun D ρ => q ρ (D.ex ρ) fun x => match x with
  | .tup xs => xs.length = is.length ∧ D.nx (setAll ρ is xs)
  | _ => False
def qUnpL (is : List Nat) (q : QE) : QS := fun D ρ => q ρ (D.ex ρ) fun x => match x with
  | .lst xs => xs.length = is.length ∧ D.nx (setAll ρ is xs)
  | _ => False
/-- self.f = e, self at slot i -/
def qFldS (i : Nat) (f : Str) (C : Addr) (q : QE) : QS := fun D ρ => match ρ[i]? with
  | some (some (.ins a C' fs)) => C' = C ∧ fs.length < 900 ∧ q ρ (D.ex ρ) fun x => D.nx (ρ.set i (some (.ins a C (putP f x fs))))
  | _ => False
/-- a loop over the items -/
def qLoop (i : Nat) (q : QS) (D : QD) : List PV → PSt → Prop
  | [], ρ => D.nx ρ
  | x :: xs, ρ => q { D with nx := fun ρ' => qLoop i q D xs ρ', ct := fun ρ' => qLoop i q D xs ρ', bk := D.nx } (ρ.set i (some (.pv x)))
def qForL (i : Nat) (qi : QE) (q : QS) : QS := fun D ρ => qi ρ (D.ex ρ) fun x => match x with
  | .lst xs => qLoop i q D xs ρ
  | _ => False
def qForT (i : Nat) (qi : QE) (q : QS) : QS := fun D ρ => qi ρ (D.ex ρ) fun x => match x with
  | .tup xs => qLoop i q D xs ρ
  | _ => False
/-- over one's own list, which the body leaves as it is -/
def rangeP (lo : Int) (n : Nat) : List PV := (List.range n).map fun (k : Nat) => PV.int (lo + (k : Int))
def qForR1 (i : Nat) (qa : QA) (q : QS) : QS := fun D ρ => qa ρ (D.ex ρ) fun xs => match xs with
  | [.int n] => -(2 ^ 62) ≤ n ∧ n < 2 ^ 62 ∧ qLoop i q D (rangeP 0 n.toNat) ρ
  | _ => False
def qForR2 (i : Nat) (qa : QA) (q : QS) : QS := fun D ρ => qa ρ (D.ex ρ) fun xs => match xs with
  | [.int lo, .int hi] => (-(2 ^ 62) ≤ lo ∧ lo < 2 ^ 62 ∧ -(2 ^ 62) ≤ hi ∧ hi < 2 ^ 62) ∧ qLoop i q D (rangeP lo (hi - lo).toNat) ρ
  | _ => False
def qWhile (c : QT) (q : QS) : QS := fun D ρ => ∃ I : Nat → PSt → Prop, (∃ m, I m ρ) ∧ ∀ m ρ, I m ρ → c ρ (D.ex ρ) fun b => if b = true then q { D with nx := fun ρ' => ∃ m', m' < m ∧ I m' ρ', ct := fun ρ' => ∃ m', m' < m ∧ I m' ρ', bk := D.nx } ρ else D.nx ρ

section
variable {X : Cx} {W : WX} {st : Stmt} {rest a b : List Stmt} {e : Expr} {q r : QS} {qe qk : QE} {qa : QA} {c : QT} {ce : Expr} {pos : Pos}
theorem jss_nil : JSs X W [] qNext := PSs.imp pss_nil fun Dh σ H ⟨Gb, Hb, ρ, G, D, R, M, q⟩ => M.nx ρ σ G H R q
theorem jss_one (h : JS X W st q) : JSs X W [st] q := pss_one h
theorem mt_nx {K : PySem.W.Frag} {Gb Hb : Hp} {D : QD} {Dh : Ends} (M : Mt K W Gb Hb D Dh) {I : PSt → Prop} {J : L2.St → Hp → Prop} (h : ∀ ρ σ G H, RelS K Gb Hb ρ σ G H → I ρ → J σ H) : Mt K W Gb Hb { D with nx := I } { Dh with nx := J } := ⟨h, M.rt, M.bk, M.ct, M.ex⟩
theorem jss_cons (h1 : JS X W st q) (h2 : JSs X W rest r) : JSs X W (st :: rest) (qSeq q r) := by
  refine PSs.imp (pss_cons h1 h2) fun Dh σ H ⟨Gb, Hb, ρ, G, D, R, M, q⟩ => ?_
  exact ⟨Gb, Hb, ρ, G, { D with nx := fun ρ' => r D ρ' }, R, mt_nx M fun ρ' σ' G' H' R' q' => ⟨Gb, Hb, ρ', G', D, R', M, q'⟩, q⟩
theorem jss_cut (h1 : JS X W st q) (h2 : JSs X W rest r) : JSs X W (st :: rest) (qCut q r) := by
  refine PSs.imp (pss_cons h1 h2) fun Dh σ H ⟨Gb, Hb, ρ, G, D, R, M, I, q, k⟩ => ?_
  exact ⟨Gb, Hb, ρ, G, { D with nx := I }, R, mt_nx M fun ρ' σ' G' H' R' q' => ⟨Gb, Hb, ρ', G', D, R', M, k ρ' q'⟩, q⟩
theorem jss_freeze (i : Nat) (h : JSs X W rest r) : JSs X W rest (qFreeze i r) := by
  refine PSs.imp h fun Dh σ H ⟨Gb, Hb, ρ, G, D, R, M, q⟩ => ?_
  unfold qFreeze at q
  split at q
  · rename_i xs ex
    obtain ⟨G', R', _⟩ := R.freeze ex
    exact ⟨Gb, Hb, _, G', D, R', M, q⟩
  · exact q.elim
theorem js_pass : JS X W (.Pass pos) qNext := PS.imp ps_pass fun Dh σ H ⟨Gb, Hb, ρ, G, D, R, M, q⟩ => M.nx ρ σ G H R q
theorem js_brk : JS X W (.Break pos) qBreak := PS.imp ps_break fun Dh σ H ⟨Gb, Hb, ρ, G, D, R, M, q⟩ => M.bk ρ σ G H R q
theorem js_cont : JS X W (.Continue pos) qCont := PS.imp ps_continue fun Dh σ H ⟨Gb, Hb, ρ, G, D, R, M, q⟩ => M.ct ρ σ G H R q
theorem js_never : JS X W st qNever := PS.imp ps_never fun Dh σ H ⟨Gb, Hb, ρ, G, D, R, M, q⟩ => q
theorem jss_never : JSs X W rest qNever := PSs.imp pss_never fun Dh σ H ⟨Gb, Hb, ρ, G, D, R, M, q⟩ => q
theorem js_expr (h : JE X W e qe) (hs : swapsWith e none pos.line X.env = pure false := by rfl) : JS X W (.Expr e pos) (qDrop qe) := PS.imp (ps_expr h hs) fun Dh σ H ⟨Gb, Hb, ρ, G, D, R, M, q⟩ =>
  ⟨Gb, Hb, ρ, G, D.ex ρ, _, R, M.exok R, q, fun x v G' H' s r q' => M.nx ρ σ G' H' (R.mono s) q'⟩
theorem js_ret (h : JE X W e qe) : JS X W (.Return (some e) pos) (qRet qe) := PS.imp (ps_ret h) fun Dh σ H ⟨Gb, Hb, ρ, G, D, R, M, q⟩ =>
  ⟨Gb, Hb, ρ, G, D.ex ρ, _, R, M.exok R, q, fun x v G' H' s r q' => M.rt x v G' H' (R.step.trans s) r q'⟩
theorem js_retN : JS X W (.Return none pos) qRetN := PS.imp ps_retN fun Dh σ H ⟨Gb, Hb, ρ, G, D, R, M, q⟩ => M.rt .non .non G H R.step .non q
theorem js_if (hc : JT X W ce c) (h1 : JSs X W a q) (h2 : JSs X W b r) : JS X W (.If ce a b pos) (qIfS c q r) := by
  refine PS.imp (ps_if hc h1 h2) fun Dh σ H ⟨Gb, Hb, ρ, G, D, R, M, q⟩ => ?_
  refine ⟨Gb, Hb, ρ, G, D.ex ρ, _, R, M.exok R, q, fun b G' H' s q' => ?_⟩
  cases b with
  | true =>
    rw [if_pos rfl] at q' ⊢
    exact ⟨Gb, Hb, ρ, G', D, R.mono s, M, q'⟩
  | false =>
    rw [if_neg Bool.false_ne_true] at q' ⊢
    exact ⟨Gb, Hb, ρ, G', D, R.mono s, M, q'⟩
theorem js_set (i : Nat) {x : Str} {pos' : Pos} (hN : X.N.Nodup) (h : JE X W e qe) (hi : X.N[i]? = some x := by rfl) (hx : Loc X.env.scope x := by first | exact Or.inl rfl | exact Or.inr rfl) (hs : swapsWith e (some (.Name x pos')) pos.line X.env = pure false := by rfl)
    (hf : X.fn x = true ∨ X.env.scope.names.lookup x = some .local := by first | exact .inl rfl | exact .inr rfl) : JS X W (.Assign [.Name x pos'] e pos) (qSet i qe) := PS.imp (ps_set hN hi hx h hs hf) fun Dh σ H ⟨Gb, Hb, ρ, G, D, R, M, q⟩ =>
  ⟨Gb, Hb, ρ, G, D.ex ρ, _, R, M.exok R, q, fun x v G' H' s r q' => M.nx _ _ G' H' ((R.mono s).set i r) q'⟩
theorem js_own (i : Nat) {x : Str} {es : List Expr} {pos' lpos : Pos} (hN : X.N.Nodup) (h : JA X W es qa) (hi : X.N[i]? = some x := by rfl) (hx : Loc X.env.scope x := by first | exact Or.inl rfl | exact Or.inr rfl) (hs : swapsWith (.List es lpos) (some (.Name x pos')) pos.line X.env = pure false := by rfl)
    (hf : X.fn x = true ∨ X.env.scope.names.lookup x = some .local := by first | exact .inl rfl | exact .inr rfl) : JS X W (.Assign [.Name x pos'] (.List es lpos) pos) (qOwn i qa) := by
  refine PS.imp (ps_set hN hi hx (pe_lst h) hs hf) fun Dh σ H ⟨Gb, Hb, ρ, G, D, R, M, q⟩ => ?_
  refine ⟨Gb, Hb, ρ, G, D.ex ρ, _, R, M.exok R, q, fun xs vs G1 H1 s1 r1 q1 => ⟨?_, fun p hp => ?_⟩⟩
  · rw [← r1.length]; exact le_line q1.1
  · have R1 := R.mono s1
    have R2 := R1.mono (Step.hid (o := .lst vs) R1.gh hp)
    refine M.nx _ _ G1 _ (R2.setOwn i upd_same r1 (R1.gh.free hp) (R1.step.hh.free hp) fun j ys ej sj => ?_) q1.2
    obtain ⟨a, us, e1, e2, _⟩ := R1.own j ys ej
    rw [sj] at e1
    cases e1
    rw [hp] at e2
    cases e2
theorem js_app (i : Nat) {x : Str} {apos pos' pos2 : Pos} (h : JE X W e qe) (hv : PE X (.Name x pos') (tVar i) := by exact pv _)
    (hpe : PE X (.Call (.Attribute (.Name x pos') "append" apos) [e] [] pos2) (tBM X.K "list" rAppend (tVar i) (tCons (tJ X.K W qe) tNil))) (hs : swapsWith (.Call (.Attribute (.Name x pos') "append" apos) [e] [] pos2) none pos.line X.env = pure false := by rfl) :
    JS X W (.Expr (.Call (.Attribute (.Name x pos') "append" apos) [e] [] pos2) pos) (qApp i qe) := by
  refine PS.imp (ps_expr hpe hs) fun Dh σ H ⟨Gb, Hb, ρ, G, D, R, M, q⟩ => ?_
  unfold qApp at q
  split at q
  · rename_i xs ex
    obtain ⟨a, vs, e1, e2, e3, e4, e5⟩ := R.own i xs ex
    refine ⟨.ref a, e1, .inl ⟨rfl, _, SqL.of e2⟩, Gb, Hb, ρ, G, D.ex ρ, _, R, M.exok R, q.2, fun x v G1 H1 s1 r1 q1 => ?_⟩
    have e2' := s1.hh _ _ e2
    refine ⟨a, vs, v, rfl, rfl, e2', ?_, ?_⟩
    · rw [← e3.length]
      exact Nat.lt_of_lt_of_le q.1 (by decide)
    · exact M.nx _ _ G1 _ ((R.mono s1).turn ex e1 e2' ((e3.mono s1.gg).append (.cons r1 .nil))) q1
  · exact q.elim
theorem ixN_len {xs : List PV} {vs : List V} {K : PySem.W.Frag} {G : Hp} (r : Reps K G xs vs) {k : Int} {j : Nat} (h : ixN xs.length k = some j) : ixN vs.length k = some j := by rw [← r.length]; exact h
theorem js_setix (i : Nat) {x : Str} {ie : Expr} {ipos pos' : Pos} (h : JE X W e qe) (hk : JE X W ie qk) (hv : PE X (.Name x pos') (tVar i) := by exact pv _)
    (ha : ∀ v, assign (.Subscript (.Name x pos') ie ipos) X.env v = (do
      let ov ← holding [v] (eval (.Name x pos') X.env)
      let iv ← holding [v, ov] (eval ie X.env)
      standAt ipos
      holding [v, ov, iv] (setItem ov iv v)
      release [v, ov, iv] []) := by intro _; rfl) (hs : swapsWithSole [.Subscript (.Name x pos') ie ipos] e pos.line X.env = pure false := by rfl) (hw : swappedStores [.Subscript (.Name x pos') ie ipos] e X.env = pure none := by rfl)
    (h1 : (assignEach [.Subscript (.Name x pos') ie ipos] X.env).map (·.2) = [assign (.Subscript (.Name x pos') ie ipos) X.env] := by rfl) : JS X W (.Assign [.Subscript (.Name x pos') ie ipos] e pos) (qSetIx i qk qe) := by
  refine PS.imp (ps_asg h (pg_sub hv hk set_list ha) hs hw h1) fun Dh σ H ⟨Gb, Hb, ρ, G, D, R, M, q⟩ => ?_
  unfold qSetIx at q
  split at q
  · rename_i xs ex
    refine ⟨Gb, Hb, ρ, G, D.ex ρ, _, R, M.exok R, q, fun x v G1 H1 s1 r1 q1 => ?_⟩
    have R1 := R.mono s1
    obtain ⟨a, vs, e1, e2, e3, e4, e5⟩ := R1.own i xs ex
    refine ⟨.ref a, e1, Gb, Hb, ρ, G1, D.ex ρ, _, R1, M.exok R1, q1, fun k w G2 H2 s2 r2 q2 => ?_⟩
    split at q2
    · obtain ⟨j, hj, q2⟩ := q2
      have e2' := s2.hh _ _ e2
      refine ⟨a, vs, _, j, rfl, rep_int r2, e2', ixN_len e3 hj, ?_⟩
      exact M.nx _ _ G2 _ ((R1.mono s2).turn ex e1 e2' ((e3.mono s2.gg).set (r1.mono s2.gg) j)) q2
    · exact q2.elim
  · exact q.elim
theorem js_par (i j : Nat) {x y : Str} {ea eb : Expr} {px py pt : Pos} {kt k2 pt2} (hc : X.calm = true) (hN : X.N.Nodup) (hij : i ≠ j) (ha : JA X W [ea, eb] qa) (hi : X.N[i]? = some x := by rfl) (hj : X.N[j]? = some y := by rfl)
    (hx : X.env.scope.names.lookup x = some .local := by rfl) (hy : X.env.scope.names.lookup y = some .local := by rfl)
    (hw : swappedStores [.Tuple [.Name x px, .Name y py] kt pt] (.Tuple [ea, eb] k2 pt2) X.env = pure (some [x, y]) := by rfl)
    (hs : swapsWithSole [.Tuple [.Name x px, .Name y py] kt pt] (.Tuple [ea, eb] k2 pt2) pos.line X.env = pure false := by rfl) :
    JS X W (.Assign [.Tuple [.Name x px, .Name y py] kt pt] (.Tuple [ea, eb] k2 pt2) pos) (qPar i j qa) := by
  refine PS.imp (ps_par hc hN hi hj hij hx hy ha hw hs) fun Dh σ H ⟨Gb, Hb, ρ, G, D, R, M, q⟩ => ?_
  refine ⟨Gb, Hb, ρ, G, D.ex ρ, _, R, M.exok R, q, fun xs vs G1 H1 s1 r1 q1 => ?_⟩
  split at q1
  · cases r1 with
    | cons ra rr =>
      cases rr with
      | cons rb rr =>
        cases rr
        exact ⟨_, _, rfl, M.nx _ _ G1 H1 (((R.mono s1).set i ra).set j rb) q1⟩
  · exact q1.elim
/-- the targets of an unpacking: names -/
def gNames : List Nat → TGs
  | [] => gNil
  | i :: is => gCons (gName i) (gNames is)
theorem gnames_ok {K : PySem.W.Frag} {Gb Hb G H : Hp} {Qh : L2.St → Hp → Prop} {I : PSt → Prop} (k : ∀ ρ σ, RelS K Gb Hb ρ σ G H → I ρ → Qh σ H) : ∀ (is : List Nat) (xs : List PV) (vs : List V) (ρ : PSt) (σ : L2.St), RelS K Gb Hb ρ σ G H → Reps K G xs vs → xs.length = is.length → I (setAll ρ is xs) → gNames is vs σ H Qh
  | [], [], _, ρ, σ, R, .nil, _, q => ⟨rfl, k ρ σ R q⟩
  | i :: is, x :: xs, _, ρ, σ, R, .cons h t, l, q => ⟨_, _, rfl, gnames_ok k is xs _ _ _ (R.set i h) t (by simpa using l) q⟩
theorem js_unp (is : List Nat) {es : List Expr} {kk : Nat} {tpos : Pos} (hc : X.calm = true) (hg : PGs X es (gNames is)) (h : JE X W e qe) (hn : (assignEach es X.env).length = is.length := by rfl) (hst : (assignEach es X.env).findIdx? (·.1) = none := by rfl)
    (hs : swapsWithSole [.Tuple es kk tpos] e pos.line X.env = pure false := by rfl) (hw : swappedStores [.Tuple es kk tpos] e X.env = pure none := by rfl)
    (h1 : (assignEach [.Tuple es kk tpos] X.env).map (·.2) = [assign (.Tuple es kk tpos) X.env] := by rfl) : JS X W (.Assign [.Tuple es kk tpos] e pos) (qUnp is qe) := by
  refine PS.imp (ps_asg h (pg_tup hc hg hn hst) hs hw h1) fun Dh σ H ⟨Gb, Hb, ρ, G, D, R, M, q⟩ => ?_
  refine ⟨Gb, Hb, ρ, G, D.ex ρ, _, R, M.exok R, q, fun x v G1 H1 s1 r1 q1 => ?_⟩
  split at q1
  · cases r1 with
    | tup hq r =>
      exact ⟨_, _, rfl, Same.sqT s1.gh hq, by rw [← r.length]; exact q1.1, gnames_ok (fun ρ' σ' R' q' => M.nx ρ' σ' G1 H1 R' q') is _ _ ρ σ (R.mono s1) r q1.1 q1.2⟩
  · exact q1.elim
theorem js_unpL (is : List Nat) {es : List Expr} {kk : Nat} {tpos : Pos} (hc : X.calm = true) (hg : PGs X es (gNames is)) (h : JE X W e qe) (hn : (assignEach es X.env).length = is.length := by rfl) (hst : (assignEach es X.env).findIdx? (·.1) = none := by rfl)
    (hs : swapsWithSole [.Tuple es kk tpos] e pos.line X.env = pure false := by rfl) (hw : swappedStores [.Tuple es kk tpos] e X.env = pure none := by rfl)
    (h1 : (assignEach [.Tuple es kk tpos] X.env).map (·.2) = [assign (.Tuple es kk tpos) X.env] := by rfl) : JS X W (.Assign [.Tuple es kk tpos] e pos) (qUnpL is qe) := by
  refine PS.imp (ps_asg h (pg_lst hc hg hn hst) hs hw h1) fun Dh σ H ⟨Gb, Hb, ρ, G, D, R, M, q⟩ => ?_
  refine ⟨Gb, Hb, ρ, G, D.ex ρ, _, R, M.exok R, q, fun x v G1 H1 s1 r1 q1 => ?_⟩
  split at q1
  · cases r1 with
    | lst hq r =>
      exact ⟨_, _, rfl, s1.gh.seq hq, by rw [← r.length]; exact q1.1, gnames_ok (fun ρ' σ' R' q' => M.nx ρ' σ' G1 H1 R' q') is _ _ ρ σ (R.mono s1) r q1.1 q1.2⟩
  · exact q1.elim
theorem js_fld (i : Nat) {x f : Str} {C : Addr} {pos' apos : Pos} (hC : Cls X.K C) (hn : NoAttr X.K C f) (h : JE X W e qe) (hv : PE X (.Name x pos') (tVar i) := by exact pv _) (hs : swapsWith e (some (.Attribute (.Name x pos') f apos)) pos.line X.env = pure false := by rfl) :
    JS X W (.Assign [.Attribute (.Name x pos') f apos] e pos) (qFldS i f C qe) := by
  refine PS.imp (ps_fld hv h hs) fun Dh σ H ⟨Gb, Hb, ρ, G, D, R, M, q⟩ => ?_
  unfold qFldS at q
  split at q
  · rename_i a C' fs ex
    obtain ⟨eC, hl, q⟩ := q
    subst eC
    refine ⟨Gb, Hb, ρ, G, D.ex ρ, _, R, M.exok R, q, fun x v G1 H1 s1 r1 q1 => ?_⟩
    have R1 := R.mono s1
    obtain ⟨dx, gs, e1, e2, e3, e4, e5⟩ := R1.ins i a _ fs ex
    refine ⟨.ref a, e1, a, _, dx, gs, rfl, e2, hC, hn, ?_, ?_⟩
    · rw [← e3.length]; omega
    · exact M.nx _ _ G1 _ (R1.fld ex e2 (e3.put r1)) q1
  · exact q.elim

/-! ### loops -/
theorem loop_drop {i : Nat} {D : QD} {xs : List PV} {k : Nat} {x : PV} {ρ : PSt} (h : xs[k]? = some x) (q' : qLoop i q D (xs.drop k) ρ) : q { D with nx := fun ρ' => qLoop i q D (xs.drop (k + 1)) ρ', ct := fun ρ' => qLoop i q D (xs.drop (k + 1)) ρ', bk := D.nx } (ρ.set i (some (.pv x))) := by
  have hl : k < xs.length := by
    rcases Nat.lt_or_ge k xs.length with h' | h'
    · exact h'
    · rw [List.getElem?_eq_none h'] at h; cases h
  rw [List.drop_eq_getElem_cons hl] at q'
  rw [List.getElem?_eq_getElem hl] at h
  cases h
  exact q'
theorem js_forL (i : Nat) {x : Str} {ie : Expr} {npos : Pos} (hp : PassesOwn (model X.prog X.w) X.A X.env X.xe) (hc : X.calm = true) (hN : X.N.Nodup) (h : JE X W ie qe) (hb : JSs X W a q) (hi : X.N[i]? = some x := by rfl)
    (hx : Loc X.env.scope x := by first | exact Or.inl rfl | exact Or.inr rfl) (hf : X.fn x = true ∨ X.env.scope.names.lookup x = some .local := by first | exact .inl rfl | exact .inr rfl)
    (hs : ∀ x, foldedSetIterable ie X.env x = pure x := by intro _; rfl) : JS X W (.For (.Name x npos) ie a [] pos) (qForL i qe q) := by
  refine PS.imp (ps_for hp hc (pi_list h) (pg_name hN hi hx hf) hb hs) fun Dh σ H ⟨Gb, Hb, ρ, G, D, R, M, q'⟩ => ?_
  refine ⟨Gb, Hb, ρ, G, D.ex ρ, _, R, M.exok R, q', fun x v G1 H1 s1 r1 q1 => ?_⟩
  split at q1
  · rename_i xs
    cases r1 with
    | @lst adr vs _ hq hr =>
      have R1 := R.mono s1
      have M1 := M.rebase R1.step
      refine ⟨adr, rfl, ⟨vs, R1.gh.seq hq⟩, for_list (K := X.K) (a := adr) (xs := vs) (fun k σ' H' => ∃ ρ' G', RelS X.K G1 (join G1 Hb) ρ' σ' G' H' ∧ qLoop i q D (xs.drop k) ρ') ⟨ρ, G1, R1.rebase, q1⟩
        (fun k σ' H' _ ⟨ρ', G', R', _⟩ => R'.gh.seq (R'.step.gg.seq hq)) ?_ ?_⟩
      · rintro k v σ' H' hv ⟨ρ', G', R', q2⟩
        obtain ⟨x, hx', rx⟩ := hr.getV hv
        have q3 := loop_drop hx' q2
        refine ⟨G1, join G1 Hb, _, G', { D with nx := fun ρ' => qLoop i q D (xs.drop (k + 1)) ρ', ct := fun ρ' => qLoop i q D (xs.drop (k + 1)) ρ', bk := D.nx }, R'.set i (rx.mono R'.step.gg), ?_, q3⟩
        exact ⟨fun ρ2 σ2 G2 H2 R2 q => ⟨ρ2, G2, R2, q⟩, M1.rt, M1.nx, fun ρ2 σ2 G2 H2 R2 q => ⟨ρ2, G2, R2, q⟩, M1.ex⟩
      · rintro σ' H' ⟨ρ', G', R', q2⟩
        rw [← hr.length, List.drop_length] at q2
        exact M1.nx _ _ _ _ R' q2
  · exact q1.elim
theorem js_forT (i : Nat) {x : Str} {ie : Expr} {npos : Pos} (hp : PassesOwn (model X.prog X.w) X.A X.env X.xe) (hc : X.calm = true) (hN : X.N.Nodup) (h : JE X W ie qe) (hb : JSs X W a q) (hi : X.N[i]? = some x := by rfl)
    (hx : Loc X.env.scope x := by first | exact Or.inl rfl | exact Or.inr rfl) (hf : X.fn x = true ∨ X.env.scope.names.lookup x = some .local := by first | exact .inl rfl | exact .inr rfl)
    (hs : ∀ x, foldedSetIterable ie X.env x = pure x := by intro _; rfl) : JS X W (.For (.Name x npos) ie a [] pos) (qForT i qe q) := by
  refine PS.imp (ps_for hp hc (pi_tup h) (pg_name hN hi hx hf) hb hs) fun Dh σ H ⟨Gb, Hb, ρ, G, D, R, M, q'⟩ => ?_
  refine ⟨Gb, Hb, ρ, G, D.ex ρ, _, R, M.exok R, q', fun x v G1 H1 s1 r1 q1 => ?_⟩
  split at q1
  · rename_i xs
    cases r1 with
    | @tup adr vs _ hq hr =>
      have R1 := R.mono s1
      have M1 := M.rebase R1.step
      refine ⟨adr, rfl, ⟨vs, Same.sqT R1.gh hq⟩, for_tup (K := X.K) (a := adr) (xs := vs) (fun k σ' H' => ∃ ρ' G', RelS X.K G1 (join G1 Hb) ρ' σ' G' H' ∧ qLoop i q D (xs.drop k) ρ') ⟨ρ, G1, R1.rebase, q1⟩
        (fun k σ' H' _ ⟨ρ', G', R', _⟩ => Same.sqT R'.gh (Same.sqT R'.step.gg hq)) ?_ ?_⟩
      · rintro k v σ' H' hv ⟨ρ', G', R', q2⟩
        obtain ⟨x, hx', rx⟩ := hr.getV hv
        have q3 := loop_drop hx' q2
        refine ⟨G1, join G1 Hb, _, G', { D with nx := fun ρ' => qLoop i q D (xs.drop (k + 1)) ρ', ct := fun ρ' => qLoop i q D (xs.drop (k + 1)) ρ', bk := D.nx }, R'.set i (rx.mono R'.step.gg), ?_, q3⟩
        exact ⟨fun ρ2 σ2 G2 H2 R2 q => ⟨ρ2, G2, R2, q⟩, M1.rt, M1.nx, fun ρ2 σ2 G2 H2 R2 q => ⟨ρ2, G2, R2, q⟩, M1.ex⟩
      · rintro σ' H' ⟨ρ', G', R', q2⟩
        rw [← hr.length, List.drop_length] at q2
        exact M1.nx _ _ _ _ R' q2
  · exact q1.elim
theorem range_get {lo : Int} {n k : Nat} (h : k < n) : (rangeP lo n)[k]? = some (.int (lo + (k : Int))) := by
  unfold rangeP
  rw [List.getElem?_map, List.getElem?_range h]
  rfl
theorem range_len {lo : Int} {n : Nat} : (rangeP lo n).length = n := by
  unfold rangeP
  rw [List.length_map, List.length_range]
theorem range_run {K : PySem.W.Frag} {Gb Hb G H : Hp} {D : QD} {Dh : Ends} {ρ : PSt} {σ : L2.St} {lo : Int} {n i : Nat} {tb : TS} (R : RelS K Gb Hb ρ σ G H) (M : Mt K W Gb Hb D Dh) (q1 : qLoop i q D (rangeP lo n) ρ) (htb : ∀ Dh σ H, tSJ K W q Dh σ H → tb Dh σ H) :
    ∃ W : Nat → Nat → L2.St → Hp → Prop, (∃ m, W 0 m σ H) ∧ ∀ i' m σ H, W i' m σ H →
      ((Itr lo n).stop i' H ∧ Dh.nx σ H) ∨ ((Itr lo n).go i' H ∧ ∃ N : L2.St → Hp → Prop, (∀ σ' H', N σ' H' → ∃ m', m' < m ∧ W (i' + 1) m' σ' H') ∧ ∀ x H', (Itr lo n).yld i' H x H' → gName i x σ H' fun σ2 H2 => tb { Dh with nx := N, ct := N, bk := Dh.nx } σ2 H2) := by
  refine for_range (lo := lo) (n := n) (fun k σ' H' => ∃ ρ' G', RelS K Gb Hb ρ' σ' G' H' ∧ qLoop i q D ((rangeP lo n).drop k) ρ') ⟨ρ, G, R, q1⟩ ?_ ?_
  · rintro k σ' H' hk ⟨ρ', G', R', q2⟩
    have q3 := loop_drop (range_get hk) q2
    refine htb _ _ _ ⟨Gb, Hb, _, G', { D with nx := fun ρ' => qLoop i q D ((rangeP lo n).drop (k + 1)) ρ', ct := fun ρ' => qLoop i q D ((rangeP lo n).drop (k + 1)) ρ', bk := D.nx }, R'.set i (.int _), ?_, q3⟩
    exact ⟨fun ρ2 σ2 G2 H2 R2 q => ⟨ρ2, G2, R2, q⟩, M.rt, M.nx, fun ρ2 σ2 G2 H2 R2 q => ⟨ρ2, G2, R2, q⟩, M.ex⟩
  · rintro σ' H' ⟨ρ', G', R', q2⟩
    rw [List.drop_of_length_le (by rw [range_len]; exact Nat.le_refl _)] at q2
    exact M.nx _ _ _ _ R' q2
theorem js_forR1 (i : Nat) {x : Str} {ae : Expr} {npos p pos2 : Pos} (hp : PassesOwn (model X.prog X.w) X.A X.env X.xe) (hc : X.calm = true) (hN : X.N.Nodup) (hm : X.mg "range" = none) (h : JA X W [ae] qa) (hb : JSs X W a q) (hg : Gl X "range" := by rfl) (hi : X.N[i]? = some x := by rfl)
    (hx : Loc X.env.scope x := by first | exact Or.inl rfl | exact Or.inr rfl) (hf : X.fn x = true ∨ X.env.scope.names.lookup x = some .local := by first | exact .inl rfl | exact .inr rfl)
    (hs : ∀ x, foldedSetIterable (.Call (.Name "range" p) [ae] [] pos2) X.env x = pure x := by intro _; rfl) (hs2 : starEach [ae] X.env = [(false, eval ae X.env)] := by rfl) : JS X W (.For (.Name x npos) (.Call (.Name "range" p) [ae] [] pos2) a [] pos) (qForR1 i qa q) := by
  refine PS.imp (ps_for hp hc (pi_range1 hg hm h hs2) (pg_name hN hi hx hf) hb hs) fun Dh σ H ⟨Gb, Hb, ρ, G, D, R, M, q'⟩ => ?_
  refine ⟨Gb, Hb, ρ, G, D.ex ρ, _, R, M.exok R, q', fun xs vs G1 H1 s1 r1 q1 => ?_⟩
  split at q1
  · cases r1 with
    | cons r1 rr =>
      cases r1; cases rr
      exact ⟨_, rfl, q1.1, q1.2.1, range_run (R.mono s1) M q1.2.2 fun _ _ _ z => z⟩
  · exact q1.elim
theorem js_forR2 (i : Nat) {x : Str} {ae be : Expr} {npos p pos2 : Pos} (hp : PassesOwn (model X.prog X.w) X.A X.env X.xe) (hc : X.calm = true) (hN : X.N.Nodup) (hm : X.mg "range" = none) (h : JA X W [ae, be] qa) (hb : JSs X W a q) (hg : Gl X "range" := by rfl) (hi : X.N[i]? = some x := by rfl)
    (hx : Loc X.env.scope x := by first | exact Or.inl rfl | exact Or.inr rfl) (hf : X.fn x = true ∨ X.env.scope.names.lookup x = some .local := by first | exact .inl rfl | exact .inr rfl)
    (hs : ∀ x, foldedSetIterable (.Call (.Name "range" p) [ae, be] [] pos2) X.env x = pure x := by intro _; rfl) (hs2 : starEach [ae, be] X.env = [(false, eval ae X.env), (false, eval be X.env)] := by rfl) (hs3 : starEach [be] X.env = [(false, eval be X.env)] := by rfl) :
    JS X W (.For (.Name x npos) (.Call (.Name "range" p) [ae, be] [] pos2) a [] pos) (qForR2 i qa q) := by
  refine PS.imp (ps_for hp hc (pi_range2 hg hm h hs2 hs3) (pg_name hN hi hx hf) hb hs) fun Dh σ H ⟨Gb, Hb, ρ, G, D, R, M, q'⟩ => ?_
  refine ⟨Gb, Hb, ρ, G, D.ex ρ, _, R, M.exok R, q', fun xs vs G1 H1 s1 r1 q1 => ?_⟩
  split at q1
  · cases r1 with
    | cons r1 rr =>
      cases rr with
      | cons r2 rr =>
        cases r1; cases r2; cases rr
        exact ⟨_, _, rfl, q1.1, range_run (R.mono s1) M q1.2 fun _ _ _ z => z⟩
  · exact q1.elim
theorem js_while (hp : PassesOwn (model X.prog X.w) X.A X.env X.xe) (h : JT X W ce c) (hb : JSs X W a q) : JS X W (.While ce a [] pos) (qWhile c q) := by
  refine PS.imp (ps_while hp h hb) fun Dh σ H ⟨Gb, Hb, ρ, G, D, R, M, I, ⟨m, i0⟩, q'⟩ => ?_
  refine ⟨fun m σ' H' => ∃ ρ' G', RelS X.K Gb Hb ρ' σ' G' H' ∧ I m ρ', ⟨m, ρ, G, R, i0⟩, ?_⟩
  rintro m σ' H' ⟨ρ', G', R', im⟩
  refine ⟨Gb, Hb, ρ', G', D.ex ρ', _, R', M.exok R', q' m ρ' im, fun b G2 H2 s2 q2 => ?_⟩
  cases b with
  | true =>
    rw [if_pos rfl] at q2 ⊢
    refine ⟨fun σ3 H3 => ∃ ρ3 G3, RelS X.K Gb Hb ρ3 σ3 G3 H3 ∧ ∃ m', m' < m ∧ I m' ρ3, fun σ3 H3 ⟨ρ3, G3, R3, m', hm, im'⟩ => ⟨m', hm, ρ3, G3, R3, im'⟩, ?_⟩
    exact ⟨Gb, Hb, ρ', G2, { D with nx := fun ρ' => ∃ m', m' < m ∧ I m' ρ', ct := fun ρ' => ∃ m', m' < m ∧ I m' ρ', bk := D.nx }, R'.mono s2, ⟨fun ρ2 σ2 G2 H2 R2 q => ⟨ρ2, G2, R2, q⟩, M.rt, M.nx, fun ρ2 σ2 G2 H2 R2 q => ⟨ρ2, G2, R2, q⟩, M.ex⟩, q2⟩
  | false =>
    rw [if_neg Bool.false_ne_true] at q2 ⊢
    exact M.nx _ _ _ _ (R'.mono s2) q2
end
end QL

set_option maxHeartbeats 2000000
/-! ### machine: != of an own class that has __eq__ alone; abs by an own __abs__ -/
namespace PySem.W
open PySem PySem.Calls PyProof.Rows
section
variable {prog : Program} {w : World} {A : Around} {E : Value → Shared → Prop} {s : Shared} {K : Frag} {x C L f : Addr} {h₀ : Heap} {m : Str → Option Value} {ox : Obj} {od : Option Obj} {b tb : Value}
theorem one_bind (self : Value) : bindSpecial (.builtin "object.__ne__") self = pure (.builtin "object.__ne__", [self]) :=
  (Slot.of (T := "object") (name := "__ne__") (owner := "object") (n := "__ne__") (by rw [typeLookup_type, builtinLookup_eq_fast]; kernel_rfl) (by decide +kernel) (by decide +kernel) (by decide +kernel)
    (.inl (by decide +kernel)) (by rw [isSubtype_type]; kernel_rfl)).bind self
theorem one_plain : plainId "object.__ne__" = true := by decide +kernel
/-- a special name that is bound to object.__ne__ -/
theorem ifBound_ne {M : Model} {name : Str} {args : List Value} {Q : Option Value → Shared → Prop} (X : K.In s.heap) (I : InstAt s.heap x ox C od) (hs : findIn K (.ref C) name = some (some (.builtin "object.__ne__")))
    (h : wpAny M A (call (.builtin "object.__ne__") (.ref x :: args)) (fun v => Q (some v)) E s) : wpAny M A (callSpecialIfBound? (.ref x) name args) Q E s := by
  have bnd : Looks M s.heap (bindSpecial (.builtin "object.__ne__") (.ref x)) (.builtin "object.__ne__", [.ref x]) := Looks.of_pure (one_bind _)
  simp only [callSpecialIfBound?, bindSpecialIfBound?]
  refine wpAny_holding (wpAny_bind (wpAny_bind (wpAny_bind (I.type.here ((looks_findIn X hs).here ?_)))))
  refine wpAny_bind (wpAny_askSetting (wpAny_ite ?_))
  have fin : wpAny M A (call (.builtin "object.__ne__") ([.ref x] ++ args) >>= fun v => pure (some v)) Q E s := wpAny_bind (wpAny_mono h (fun v s' h' => wpAny_pure h') fun _ _ h' => h')
  split
  · exact wpAny_bind (bnd.here (wpAny_pure (by exact fin)))
  · exact wpAny_tryCatch (wpAny_bind (bnd.here (wpAny_pure (by exact fin))))
/-- object.__ne__ of an instance whose class has a def as __eq__ -/
theorem one_body (hu : A.units < cLine) (X : K.In s.heap) (I : InstAt s.heap x ox C od) (hs : findIn K (.ref C) "__eq__" = some (some (.ref f))) (hf : isFn K (.ref f) = true) {Q : Fin → Shared → Prop}
    (h : wpAny (model prog w) A (call (.ref f) [.ref x, b]) (fun v s' => ∃ k, v = .bool k ∧ Q (.done (.ret (.bool (!k)))) s') E s) : wpAny (model prog w) A (Builtin.«object.__ne__» ⟨[.ref x, b], []⟩) Q E s := by
  unfold Builtin.«object.__ne__»
  repeat (first
    | with_reducible refine wpAny_cRoomFor hu ?_
    | (refine wpAny_bind (m := callSpecialIfBound? (.ref x) (Str.ofString "__eq__") [b])
        (ifBound_K X I hs hf (wpAny_mono h (fun r s' hr => by
          obtain ⟨k, rfl, hq⟩ := hr
          repeat (first | exact hq | exact wpAny_pure hq | exact wpAny_truthy_bool hq | (refine wpAny_bind (m := truthy (.bool _)) (wpAny_truthy_bool ?_)) | wp_step)) fun _ _ e => e)))
    | wp_step)
theorem ne_K {Q : Value → Shared → Prop} (hu : A.units + 1 < cLine) (Fx : Fr h₀ L s.heap m) (X₀ : K.In h₀) (I : InstAt s.heap x ox C od) (hb : Looks (model prog w) s.heap (typeOf b) tb) (hn : notFirst K C tb = true)
    (hne : findIn K (.ref C) "__ne__" = some (some (.builtin "object.__ne__"))) (hm : mroIn K C (.type "object") = some true) (hs : findIn K (.ref C) "__eq__" = some (some (.ref f))) (hf : isFn K (.ref f) = true)
    (h : wpAny (model prog w) A.in1 (call (.ref f) [.ref x, b]) (fun v s' => ∃ k, v = .bool k ∧ Q (.bool (!k)) s') E s) : wpAny (model prog w) A (richCompare .NotEq (.ref x) b) Q E s := by
  have X := X₀.keeps Fx.keep
  have one : wpAny (model prog w) A (tryCompare (.ref x) (cmpInfo .NotEq).2.1 b) (fun r s' => ∃ v, r = some v ∧ Q v s') E s := by
    unfold tryCompare
    refine wpAny_bind (ifBound_ne X I hne (wpAny_call (codeAny_call_builtin one_plain F.cmpEntry_ne (check_slot F.cmpKind_ne F.cmpSplit_ne (I.type.andThen (looks_mroIn X hm)) (F.cmpArgs_ne _ _) ?_))))
    refine one_body (A := A.in1) (by show A.units + 1 < cLine; exact hu) X I hs hf (wpAny_mono h (fun v s' hv => ?_) fun _ _ e => e)
    obtain ⟨k, rfl, hq⟩ := hv
    refine ⟨k, rfl, ?_⟩
    first
      | exact wpAny_pure ⟨_, rfl, hq⟩
      | exact ⟨_, rfl, wpAny_pure ⟨_, rfl, hq⟩⟩
  unfold richCompare
  simp only [oneThing_ref]
  refine wpAny_holding (wpAny_bind (wpAny_cRoomFor (Nat.lt_of_succ_lt hu) ?_))
  refine wpAny_bind (I.type.here (wpAny_bind (hb.here ?_)))
  split
  · rename_i q
    have e : subIn K tb (.ref C) = some false := by
      rcases Bool.or_eq_true_iff.mp hn with e | e
      · rw [beq_iff_eq.mp e] at q; simp at q
      · exact beq_iff_eq.mp e
    refine wpAny_bind ((looks_subIn X e).here ?_)
    simp only [Bool.false_eq_true, if_false]
    refine wpAny_bind (wpAny_mono one (fun r s' z => ?_) fun _ _ e => e)
    obtain ⟨v, rfl, hq⟩ := z
    exact wpAny_pure hq
  · refine wpAny_bind (wpAny_pure ?_)
    simp only [Bool.false_eq_true, if_false]
    refine wpAny_bind (wpAny_mono one (fun r s' z => ?_) fun _ _ e => e)
    obtain ⟨v, rfl, hq⟩ := z
    exact wpAny_pure hq
/-- abs(x), x an instance whose class has a def as __abs__ -/
theorem abs_K {Q : Value → Shared → Prop} (X : K.In s.heap) (I : InstAt s.heap x ox C od) (hs : findIn K (.ref C) "__abs__" = some (some (.ref f))) (hf : isFn K (.ref f) = true)
    (h : wpAny (model prog w) A.in1 (call (.ref f) [.ref x]) Q E s) : wpAny (model prog w) A (call (.builtin "abs") [.ref x]) Q E s := by
  refine call_function_entry kind_abs plain_abs entry_abs (args_abs _) ?_
  unfold Builtin.«abs»
  refine wpAny_bind (m := oneArg "abs" _) (wpAny_pure ?_)
  refine wpAny_bind (m := callSpecial? (.ref x) (Str.ofString "__abs__")) (special_fn X I hs (beq_iff_eq.mp hf) (wpAny_mono h (fun v s' hv => ?_) fun _ _ e => e))
  exact wpAny_pure ⟨_, rfl, hv⟩
end
end PySem.W
namespace QL
open PySem PySem.Spec PyProof.Rows L2

/-! ### what a def promises -/
abbrev PSpec := List PV → Y → (PV → Prop) → Prop
abbrev ISpec := List PV → Y → (List (Str × PV) → Prop) → Prop
def spP (K : PySem.W.Frag) (P : PSpec) : Sp := fun vs H Q E => ∃ (G : Hp) (xs : List PV) (y : Y) (Qp : PV → Prop), Same G H ∧ Reps K G xs vs ∧ P xs y Qp ∧
  (∀ x v G' H', Step G H G' H' → Rep K G' x v → Qp x → Q v H') ∧ (∀ p d G' H', Step G H G' H' → RepX K G' H' p d → y p → E (.ref p.C) (some d) H')
/-- of an __init__: the instance at a is made; nothing else sees it as yet -/
def spI (K : PySem.W.Frag) (C : Addr) (P : ISpec) : Sp := fun vs H Q E => ∃ (G : Hp) (a dx : Addr) (ws : List V) (xs : List PV) (y : Y) (Qp : List (Str × PV) → Prop), vs = .ref a :: ws ∧ H a = some (.ins C dx []) ∧ G a = none ∧ Same G H ∧ Reps K G xs ws ∧ P xs y Qp ∧
  (∀ fs dx' gs G' H', Step G (del H a) G' H' → G' a = none → H' a = some (.ins C dx' gs) → RepF K G' fs gs → Qp fs → Q .non H') ∧
  (∀ p d G' H', Step G (del H a) G' H' → RepX K G' H' p d → y p → E (.ref p.C) (some d) H')
/-- what a call of here may let out is taken -/
def Tk (X : Cx) (W : WX) : Prop := ∀ σ, PassesAt (L2.CX X.prog X.w) X σ (WE W σ)
/-- a body's ends -/
def endsP (y : Y) (Q : PV → Prop) : QD := { nx := fun _ => Q .non, rt := Q, ex := fun _ => y }
def endsI (y : Y) (a C : Addr) (Q : List (Str × PV) → Prop) : QD := { nx := fun ρ => ∃ fs, ρ[0]? = some (some (.ins a C fs)) ∧ Q fs, rt := fun _ => False, ex := fun _ => y }
def startP (n : Nat) (xs : List PV) : PSt := xs.map (fun x => some (.pv x)) ++ List.replicate (n - xs.length) none
def startI (n : Nat) (a C : Addr) (xs : List PV) : PSt := some (.ins a C []) :: (xs.map (fun x => some (.pv x)) ++ List.replicate (n - (xs.length + 1)) none)
section
variable {P : Program} {w : World} {K : PySem.W.Frag} {mg : Str → Option Value} {base : Heap} {x qual : Str} {st : Stmt} {f : Addr} {fd : FuncData} {N ps : List Str} {k : Nat} {Ps : PSpec} {Is : ISpec} {C : Addr} {q : QS}
theorem tk_cx {N : List Str} {qual : Str} {sc : Scope} {f : Addr} {cd : Value} {A : Around} {outer : List Env} {s : Shared} {H : Hp} {E : XK} : Tk (cxOf (L2.CX P w) P w K mg base N qual sc f cd A outer s H E) (fun cls d _ H => E cls d H) := fun σ => passAt (takes_of rfl rfl rfl rfl) σ
theorem tk_false {X : Cx} : Tk X (fun _ _ _ _ => False) := fun σ pins H s e s' I c => by
  obtain ⟨_, _, _, _, _, _, _, _, _, _, _, _, z⟩ := c
  exact z.elim
theorem reps_start {G : Hp} : ∀ {xs : List PV} {vs : List V} {i : Nat} {x : PV} {m : Nat}, Reps K G xs vs → (xs.map (fun x => some (Sl.pv x)) ++ List.replicate m none)[i]? = some (some (.pv x)) → ∃ v, (vs.map some ++ List.replicate m none)[i]? = some (some v) ∧ Rep K G x v
  | _, _, i, _, m, .nil, e => by
    have : (List.replicate m (none : Option Sl))[i]? = some (some (.pv _)) := e
    rw [List.getElem?_replicate] at this
    split at this <;> cases this
  | _, _, 0, _, m, .cons r _, e => by cases e; exact ⟨_, rfl, r⟩
  | _, _, i + 1, x, m, .cons _ t, e => reps_start (i := i) (x := x) (m := m) t e
theorem start_not {xs : List PV} {i m : Nat} {z : Sl} (h : ∀ x, z ≠ .pv x) : (xs.map (fun x => some (Sl.pv x)) ++ List.replicate m none)[i]? ≠ some (some z) := by
  intro e
  rw [List.getElem?_append] at e
  split at e
  · rw [List.getElem?_map] at e
    cases q : xs[i]? with
    | none => rw [q] at e; cases e
    | some x => rw [q] at e; cases e; exact h x rfl
  · rw [List.getElem?_replicate] at e
    split at e <;> cases e
theorem rels_start {G H : Hp} {xs : List PV} {vs : List V} {n : Nat} (s : Same G H) (r : Reps K G xs vs) : RelS K G H (startP n xs) (vs.map some ++ List.replicate (n - vs.length) none) G H where
  step := .refl s
  len := by simp [startP, r.length]
  val := fun i x e => by
    rw [← r.length]
    exact reps_start r e
  own := fun i xs e => absurd e (start_not (fun _ => Sl.noConfusion))
  ins := fun i a C fs e => absurd e (start_not (fun _ => Sl.noConfusion))
  exc := fun i a d C fs e => absurd e (start_not (fun _ => Sl.noConfusion))
  one := fun i j a C b D fs gs e => absurd e (start_not (fun _ => Sl.noConfusion))
  sep := fun i j xs ys a e => absurd e (start_not (fun _ => Sl.noConfusion))
theorem rels_startI {G H : Hp} {a dx C : Addr} {xs : List PV} {vs : List V} {n : Nat} (s : Same G H) (r : Reps K G xs vs) (ha : H a = some (.ins C dx [])) (hg : G a = none) :
    RelS K G (del H a) (startI n a C xs) ((V.ref a :: vs).map some ++ List.replicate (n - (V.ref a :: vs).length) none) G H where
  step := ⟨fun b o e => by
      by_cases c : b = a
      · subst c; rw [del_same] at e; cases e
      · rw [del_ne c] at e; exact e, Same.refl _, s, fun b o e n => by rw [e] at n; cases n⟩
  len := by simp [startI, r.length]
  val := fun i x e => by
    cases i with
    | zero => cases e
    | succ i =>
      have e' : (xs.map (fun x => some (Sl.pv x)) ++ List.replicate (n - (xs.length + 1)) none)[i]? = some (some (.pv x)) := e
      rw [r.length] at e'
      obtain ⟨v, h1, h2⟩ := reps_start (i := i) r e'
      exact ⟨v, h1, h2⟩
  own := fun i ys e => by
    cases i with
    | zero => cases e
    | succ i => exact absurd (show (xs.map (fun x => some (Sl.pv x)) ++ List.replicate (n - (xs.length + 1)) none)[i]? = _ from e) (start_not (fun _ => Sl.noConfusion))
  ins := fun i b C' fs e => by
    cases i with
    | zero => cases e; exact ⟨dx, [], rfl, ha, .nil, hg, del_same⟩
    | succ i => exact absurd (show (xs.map (fun x => some (Sl.pv x)) ++ List.replicate (n - (xs.length + 1)) none)[i]? = _ from e) (start_not (fun _ => Sl.noConfusion))
  exc := fun i b d C' fs e => by
    cases i with
    | zero => cases e
    | succ i => exact absurd (show (xs.map (fun x => some (Sl.pv x)) ++ List.replicate (n - (xs.length + 1)) none)[i]? = _ from e) (start_not (fun _ => Sl.noConfusion))
  one := fun i j b C' b' D fs gs e1 e2 => by
    cases i with
    | zero =>
      cases j with
      | zero => rfl
      | succ j => exact absurd (show (xs.map (fun x => some (Sl.pv x)) ++ List.replicate (n - (xs.length + 1)) none)[j]? = _ from e2) (start_not (fun _ => Sl.noConfusion))
    | succ i => exact absurd (show (xs.map (fun x => some (Sl.pv x)) ++ List.replicate (n - (xs.length + 1)) none)[i]? = _ from e1) (start_not (fun _ => Sl.noConfusion))
  sep := fun i j ys zs b e1 => by
    cases i with
    | zero => cases e1
    | succ i => exact absurd (show (xs.map (fun x => some (Sl.pv x)) ++ List.replicate (n - (xs.length + 1)) none)[i]? = _ from e1) (start_not (fun _ => Sl.noConfusion))
/-- THE RULE for a def -/
theorem fn_q (F : Fun K x qual st f fd) (S : FnScope N ps (defScope st)) (hl : ∀ xs y Q, Ps xs y Q → xs.length = ps.length)
    (hq : ∀ (cdv : Value) (A : Around) (outer : List Env) (s : Shared) (H : Hp) (E : XK), Room k (A.deeper (envOfC qual (defScope st) s.heap.objs.size f cdv)) →
      JSs (cxOf (L2.CX P w) P w K mg base N qual (defScope st) f cdv A outer s H E) (fun cls d _ H => E cls d H) (defBody st) q)
    (hp : ∀ xs y Q, Ps xs y Q → q (endsP y Q) (startP N.length xs)) : FnOk P w K mg base (L2.CX P w) (k + 1) f fd ps (spP K Ps) := by
  refine F.okX S (fun vs H Q E h => ?_) (fun cdv A outer s H vs Q E hr h => ⟨_, hq cdv A outer s H E hr, ?_⟩)
  · obtain ⟨G, xs, y, Qp, _, r, p, _⟩ := h
    rw [← r.length]
    exact hl xs y Qp p
  · obtain ⟨G, xs, y, Qp, sm, r, p, k1, k2⟩ := h
    refine ⟨G, H, startP N.length xs, G, endsP y Qp, rels_start sm r, ⟨fun ρ σ G' H' R q => k1 .non .non G' H' R.step .non q, fun x v G' H' s r q => k1 x v G' H' s r q, fun _ _ _ _ _ q => q, fun _ _ _ _ _ q => q, fun ρ σ G' H' p d R r q => k2 p d G' H' R.step r q⟩, hp xs y Qp p⟩
/-- .. for an __init__ -/
theorem fn_qI (F : Fun K x qual st f fd) (S : FnScope N ps (defScope st)) (hl : ∀ xs y Q, Is xs y Q → xs.length + 1 = ps.length)
    (hq : ∀ (cdv : Value) (A : Around) (outer : List Env) (s : Shared) (H : Hp) (E : XK), Room k (A.deeper (envOfC qual (defScope st) s.heap.objs.size f cdv)) →
      JSs (cxOf (L2.CX P w) P w K mg base N qual (defScope st) f cdv A outer s H E) (fun cls d _ H => E cls d H) (defBody st) q)
    (hp : ∀ a xs y Q, Is xs y Q → q (endsI y a C Q) (startI N.length a C xs)) : FnOk P w K mg base (L2.CX P w) (k + 1) f fd ps (spI K C Is) := by
  refine F.okX S (fun vs H Q E h => ?_) (fun cdv A outer s H vs Q E hr h => ⟨_, hq cdv A outer s H E hr, ?_⟩)
  · obtain ⟨G, a, dx, ws, xs, y, Qp, rfl, _, _, _, r, p, _⟩ := h
    show ws.length + 1 = _
    rw [← r.length]
    exact hl xs y Qp p
  · obtain ⟨G, a, dx, ws, xs, y, Qp, rfl, ha, hg, sm, r, p, k1, k2⟩ := h
    refine ⟨G, del H a, startI N.length a C xs, G, endsI y a C Qp, rels_startI sm r ha hg, ⟨fun ρ σ G' H' R q => ?_, fun _ _ _ _ _ _ q => q.elim, fun _ _ _ _ _ q => q, fun _ _ _ _ _ q => q, fun ρ σ G' H' p d R r q => k2 p d G' H' R.step r q⟩, hp a xs y Qp p⟩
    obtain ⟨fs, e, q⟩ := q
    obtain ⟨dx', gs, h1, h2, h3, h4, h5⟩ := R.ins 0 a C fs e
    exact k1 fs dx' gs G' H' R.step h4 h2 h3 q
end

/-! ### calls -/
def qCall (P : PSpec) (dps : List PV) (qa : QA) : QE := fun ρ y Q => qa ρ y fun xs => P (xs ++ dps) y Q
def qMake (C : Addr) (P : ISpec) (dps : List PV) (qa : QA) : QE := fun ρ y Q => qa ρ y fun xs => P (xs ++ dps) y fun fs => Q (.obj C fs)
def qMeth (C : Addr) (m : Str) (P : PSpec) (dps : List PV) (qo : QE) (qa : QA) : QE := fun ρ y Q => qo ρ y fun x => match x with
  | .obj C' fs => C' = C ∧ fs.lookup m = none ∧ qa ρ y fun xs => P (.obj C' fs :: (xs ++ dps)) y Q
  | _ => False
def qProp (C : Addr) (P : PSpec) (qo : QE) : QE := fun ρ y Q => qo ρ y fun x => match x with
  | .obj C' fs => C' = C ∧ P [.obj C' fs] (fun _ => False) Q
  | _ => False
def qFld (C : Addr) (f : Str) (qo : QE) : QE := fun ρ y Q => qo ρ y fun x => match x with
  | .obj C' fs => C' = C ∧ ∃ u, fs.lookup f = some u ∧ Q u
  | _ => False
section
variable {X : Cx} {W : WX} {k : Nat} {f C : Addr} {fd : FuncData} {ps : List Str} {P : PSpec} {Is : ISpec} {dvs : List V} {dps : List PV} {ds : List Value} {x m : Str} {p pos apos : Pos} {e o : Expr} {es : List Expr} {qa : QA} {qo : QE}
theorem sp_call {σ : L2.St} {G H G1 H1 : Hp} {y : Y} {Q : PV → Prop} {Qh : VK} {xs : List PV} {vs : List V} (E : ExOk X.K W σ G H y) (s1 : Step G H G1 H1) (r1 : Reps X.K G1 xs vs) (hds : Reps X.K G1 dps dvs) (q1 : P (xs ++ dps) y Q)
    (k : ∀ x v G' H', Step G H G' H' → Rep X.K G' x v → Q x → Qh v H') : spP X.K P (vs ++ dvs) H1 Qh (WE W σ) :=
  ⟨G1, xs ++ dps, y, Q, s1.gh, r1.append hds, q1, fun x v G' H' s r q => k x v G' H' (s1.trans s) r q, fun p d G' H' s r q => E p d G' H' (s1.trans s) r q⟩
theorem je_call (F : FnOk X.prog X.w X.K X.mg X.base (L2.CX X.prog X.w) k f fd ps (spP X.K P)) (hr : Room k X.A) (hm : X.mg x = some (.ref f)) (hk : PySem.W.keepIn X.K (.ref f) = true) (hb : Binds X.K fd ps ds) (hd : Vals dvs ds) (hds : ∀ G, Reps X.K G dps dvs) (tk : Tk X W)
    (ha : JA X W (e :: es) qa) (hg : Gl X x := by rfl) (hdb : (x == ("__debug__" : Str)) = false := by decide) (he : starEach (e :: es) X.env = (false, eval e X.env) :: starEach es X.env := by rfl) (hpl : (backTo pos (starEach es X.env)).any (·.1) = false := by rfl) :
    JE X W (.Call (.Name x p) (e :: es) [] pos) (qCall P dps qa) := by
  refine PE.imp (pe_callSD (E := WE W) F hr hg hm hk hb hd tk ha hdb he hpl) fun σ H Qh ⟨Gb, Hb, ρ, G, y, Q, R, E, q, kk⟩ => ?_
  exact ⟨Gb, Hb, ρ, G, y, _, R, E, q, fun xs vs G1 H1 s1 r1 q1 => sp_call E s1 r1 (hds G1) q1 kk⟩
theorem je_call0 (F : FnOk X.prog X.w X.K X.mg X.base (L2.CX X.prog X.w) k f fd ps (spP X.K P)) (hr : Room k X.A) (hm : X.mg x = some (.ref f)) (hk : PySem.W.keepIn X.K (.ref f) = true) (hb : Binds X.K fd ps ds) (hd : Vals dvs ds) (hds : ∀ G, Reps X.K G dps dvs) (tk : Tk X W)
    (hg : Gl X x := by rfl) (hdb : (x == ("__debug__" : Str)) = false := by decide) : JE X W (.Call (.Name x p) [] [] pos) (qCall P dps qNil) := by
  refine ⟨fun pins s σ H Qh I ⟨Gb, Hb, ρ, G, y, Q, R, E, q, kk⟩ => ?_⟩
  refine wpAny_Call_Name_kw (ld_glob I hg hm ?_ hdb)
  exact PySem.W.callWith_K0 I.kIn hk (run_fnSD (E := WE W) (us := []) F hr hb hd (tk σ) I .nil (sp_call E (.refl R.gh) .nil (hds G) q kk))
/-- what stands behind the making of an instance -/
theorem sp_make {σ : L2.St} {G H G1 H1 : Hp} {y : Y} {Q : PV → Prop} {Qh : VK} {xs : List PV} {vs : List V} {a dx : Addr} (E : ExOk X.K W σ G H y) (s1 : Step G H G1 H1) (r1 : Reps X.K G1 xs vs) (hds : Reps X.K G1 dps dvs) (q1 : Is (xs ++ dps) y fun fs => Q (.obj C fs))
    (kk : ∀ x v G' H', Step G H G' H' → Rep X.K G' x v → Q x → Qh v H') (na : H1 a = none) (nd : H1 dx = none) (ne : dx ≠ a) :
    spI X.K C Is (.ref a :: (vs ++ dvs)) (upd (upd H1 dx (.own a)) a (.ins C dx [])) (fun v H2 => v = .non ∧ Qh (.ref a) H2) (WE W σ) := by
  have ga : G1 a = none := s1.gh.free na
  have h1 : Same H1 (del (upd (upd H1 dx (.own a)) a (.ins C dx [])) a) := fun b o e => by
    have nb : b ≠ a := ne_of_none e na
    rw [del_ne nb, upd_ne nb, upd_ne (ne_of_none e nd)]
    exact e
  have h2 : Same G1 (upd (upd H1 dx (.own a)) a (.ins C dx [])) := fun b o e => by
    have e' := s1.gh _ _ e
    rw [upd_ne (ne_of_none e' na), upd_ne (ne_of_none e' nd)]
    exact e'
  have back : ∀ {b : Addr}, del (upd (upd H1 dx (.own a)) a (.ins C dx [])) a b = none → H1 b = none := fun {b} e => by
    by_cases c : b = a
    · rw [c]; exact na
    · rw [del_ne c, upd_ne c] at e
      by_cases c2 : b = dx
      · rw [c2]; exact nd
      · rw [upd_ne c2] at e
        exact e
  refine ⟨G1, a, dx, vs ++ dvs, xs ++ dps, y, fun fs => Q (.obj C fs), rfl, upd_same, ga, h2, r1.append hds, q1, fun fs dx' gs G' H' s g' h' r q => ⟨rfl, ?_⟩, fun p d G' H' s r q => ?_⟩
  · have gg : Same G' (upd G' a (.ins C dx' gs)) := fun b o e => by rw [upd_ne (ne_of_none e g')]; exact e
    refine kk (.obj C fs) (.ref a) (upd G' a (.ins C dx' gs)) H' (s1.trans ⟨h1.trans s.hh, s.gg.trans gg, fun b o e => ?_, fun b o e n => ?_⟩) (.obj upd_same (r.mono gg)) q
    · by_cases c : b = a
      · subst c; rw [upd_same] at e; cases e; exact h'
      · rw [upd_ne c] at e; exact s.gh _ _ e
    · by_cases c : b = a
      · rw [c]; exact na
      · rw [upd_ne c] at e; exact back (s.new b o e n)
  · exact E p d G' H' (s1.trans ⟨h1.trans s.hh, s.gg, s.gh, fun b o e n => back (s.new b o e n)⟩) r q
theorem run_makeS {pins : List (Addr × Obj)} {σ : L2.St} {H : Hp} {s : Shared} {Q : VK} {us : List Value} {vs : List V} {sp : Sp} {E : XK} {CX : CXT} (M : Mk X.K C f) (F : FnOk X.prog X.w X.K X.mg X.base CX k f fd ps sp) (hr : Room (k + 1) X.A) (hb : Binds X.K fd ps ds) (hd : Vals dvs ds)
    (hx : PassesAt CX X σ E) (I : Inv X pins σ H s) (r : Vals vs us)
    (h : ∀ x dx, H x = none → H dx = none → dx ≠ x → sp (.ref x :: (vs ++ dvs)) (upd (upd H dx (.own x)) x (.ins C dx [])) (fun v H2 => v = .non ∧ Q (.ref x) H2) E) :
    wpAny (model X.prog X.w) X.A (call (.ref C) us) (EP X pins σ Q) X.xe s := by
  have hq := h (s.heap.objs.size + 1) s.heap.objs.size (I.hok.fresh (Nat.le_succ _)) (I.hok.fresh (Nat.le_refl _)) (Nat.ne_of_lt (Nat.lt_succ_self _))
  have I2 := Inv.made (C := C) I
  have r2 : Vals (V.ref (s.heap.objs.size + 1) :: (vs ++ dvs)) (Value.ref (s.heap.objs.size + 1) :: (us ++ ds)) := .cons rfl (r.append hd)
  have hl : (Value.ref (s.heap.objs.size + 1) :: us ++ ds).length = ps.length := by
    have e := r2.length
    rw [F.len _ _ _ _ hq] at e
    exact e.symm
  refine wpAny_call (make_map (f := f) I.kIn M.makes M.init (beq_iff_eq.mp M.fn) (codeAny_mono (F.run _ X.stack _ _ ⟨Value.ref (s.heap.objs.size + 1) :: us, []⟩ (Value.ref (s.heap.objs.size + 1) :: (us ++ ds)) _ _ E (hr.make C us [])
    (I2.env0.make C us []) (hb _ (Value.ref (s.heap.objs.size + 1) :: us) I2.kIn hl) r2 hq) fun r s' hq' => ?_))
  cases r with
  | error e => exact hx pins _ _ e s' I2 hq'
  | ok fl =>
    cases fl with
    | ret u =>
      obtain ⟨v, H', I3, rv, ev, q3⟩ := I2.after hq'
      subst ev
      exact ⟨rv, ⟨V.ref (s.heap.objs.size + 1), H', I3, rfl, q3⟩⟩
    | next => exact False.elim hq'
    | brk => exact False.elim hq'
    | cont => exact False.elim hq'
theorem je_make (M : Mk X.K C f) (F : FnOk X.prog X.w X.K X.mg X.base (L2.CX X.prog X.w) k f fd ps (spI X.K C Is)) (hr : Room (k + 1) X.A) (hm : X.mg x = some (.ref C)) (hb : Binds X.K fd ps ds) (hd : Vals dvs ds) (hds : ∀ G, Reps X.K G dps dvs) (tk : Tk X W)
    (ha : JA X W (e :: es) qa) (hg : Gl X x := by rfl) (hdb : (x == ("__debug__" : Str)) = false := by decide) (he : starEach (e :: es) X.env = (false, eval e X.env) :: starEach es X.env := by rfl) (hpl : (backTo pos (starEach es X.env)).any (·.1) = false := by rfl) :
    JE X W (.Call (.Name x p) (e :: es) [] pos) (qMake C Is dps qa) := by
  refine ⟨fun pins s σ H Qh I ⟨Gb, Hb, ρ, G, y, Q, R, E, q, kk⟩ => ?_⟩
  refine wpAny_Call_Name_kw (ld_glob I hg hm ?_ hdb)
  refine PySem.W.callWith_K (h₀ := X.base) I.ok.mod.kin M.kp (thn (ha.run pos pins s σ H (fun vs H1 => ∃ G1 xs, Step G H G1 H1 ∧ Reps X.K G1 xs vs ∧ Is (xs ++ dps) y fun fs => Q (.obj C fs)) I ⟨Gb, Hb, ρ, G, y, _, R, E, q, fun xs vs G1 H1 s1 r1 q1 => ⟨G1, xs, s1, r1, q1⟩⟩) fun us s1 ⟨vs, H1, I1, r, G1, xs, st, r1, q1⟩ => ⟨I1.kIn, ?_⟩) he hpl
  exact run_makeS (E := WE W σ) M F hr hb hd (tk σ) I1 r fun a dx na nd ne => sp_make E st r1 (hds G1) q1 kk na nd ne
theorem je_meth {pl : Sem Bool} (he : JE X W o qo) (c : Cls X.K C) (hm : Meth X.K C m f) (F : FnOk X.prog X.w X.K X.mg X.base (L2.CX X.prog X.w) k f fd ps (spP X.K P)) (hr : Room k X.A) (hb : Binds X.K fd ps ds) (hd : Vals dvs ds) (hds : ∀ G, Reps X.K G dps dvs) (tk : Tk X W) (ha : JA X W (e :: es) qa)
    (hst : starEach (e :: es) X.env = (false, eval e X.env) :: starEach es X.env := by rfl) (hpl : (backTo pos (starEach es X.env)).any (·.1) = false := by rfl)
    (ht : eval (.Call (.Attribute o m apos) (e :: es) [] pos) X.env = (do
      let ov ← eval o X.env
      standAt apos.atName
      let (f, first) ← holding [ov] (getMethod ov m pl)
      callWith pos f first (backTo pos (starEach (e :: es) X.env)) (backToKw pos (keywordEach [] X.env))) := by rfl) :
    JE X W (.Call (.Attribute o m apos) (e :: es) [] pos) (qMeth C m P dps qo qa) := by
  refine ⟨fun pins s σ H Qh I ⟨Gb, Hb, ρ, G, y, Q, R, E, q, kk⟩ => ?_⟩
  refine PySem.W.methodCall_KW (pl := pl) (thn (he.run pins s σ H (fun v H1 => ∃ (G1 : Hp) (a dx : Addr) (gs : List (Str × V)) (fs : List (Str × PV)), v = .ref a ∧ G1 a = some (.ins C dx gs) ∧ RepF X.K G1 fs gs ∧ fs.lookup m = none ∧ Step G H G1 H1 ∧ qa ρ y (fun xs => P (.obj C fs :: (xs ++ dps)) y Q)) I ⟨Gb, Hb, ρ, G, y, _, R, E, q, fun x v G1 H1 s1 r1 q1 => by
    split at q1
    · obtain ⟨rfl, h2, h3⟩ := q1
      cases r1 with
      | obj hg hr => exact ⟨G1, _, _, _, _, rfl, hg, hr, h2, s1, h3⟩
    · exact q1.elim⟩) fun u s1 ⟨v, H1, I1, rx, G1, a, dx, gs, fs, ex, ea, rf, l, st, q1⟩ => ?_) ht
  subst ex
  obtain rfl : u = Value.ref a := rx
  refine getmeth_ok I1 (st.gh _ _ ea) c hm (rf.lookN l) ?_
  refine PySem.W.callWith_K (first := [.ref a]) (h₀ := X.base) I.ok.mod.kin hm.kp (thn (ha.run pos pins s1 σ H1 (fun vs H2 => ∃ G2 xs, Step G1 H1 G2 H2 ∧ Reps X.K G2 xs vs ∧ P (.obj C fs :: (xs ++ dps)) y Q) I1 ⟨Gb, Hb, ρ, _, y, _, R.mono st, E.mono st, q1, fun xs vs G2 H2 s2 r2 q2 => ⟨G2, xs, s2, r2, q2⟩⟩) fun us s2 ⟨vs, H2, I2, r, G2, xs, st2, r2, q2⟩ => ⟨I2.kIn, ?_⟩) hst hpl
  have ro : Rep X.K G2 (.obj C fs) (.ref a) := .obj (st2.gg _ _ ea) (rf.mono st2.gg)
  exact run_fnSD (E := WE W) (us := .ref a :: us) (vs := .ref a :: vs) F hr hb hd (tk σ) I2 (.cons rfl r) (sp_call (xs := .obj C fs :: xs) E (st.trans st2) (.cons ro r2) (hds G2) q2 kk)
theorem je_fld (he : JE X W o qo) (c : Cls X.K C) (n : NoAttr X.K C m) (hb : attributeBase o m X.env (eval o X.env) = eval o X.env := by rfl) : JE X W (.Attribute o m pos) (qFld C m qo) := by
  refine PE.imp (pe_fld he hb) fun σ H Qh ⟨Gb, Hb, ρ, G, y, Q, R, E, q, k⟩ => ?_
  refine ⟨Gb, Hb, ρ, G, y, _, R, E, q, fun x v G1 H1 s1 r1 q1 => ?_⟩
  split at q1
  · obtain ⟨rfl, u, hu, q1⟩ := q1
    cases r1 with
    | obj hg hr =>
      obtain ⟨v', h1, h2⟩ := hr.look hu
      exact ⟨_, _, _, _, v', rfl, s1.gh _ _ hg, c, n, h1, k _ _ G1 H1 s1 h2 q1⟩
  · exact q1.elim
theorem je_prop {pa g : Addr} (he : JE X W o qo) (c : Cls X.K C) (hp : PropOf X.K C m pa g) (F : FnOk X.prog X.w X.K X.mg X.base (L2.CX X.prog X.w) k g fd ps (spP X.K P)) (hr : Room (k + 1) X.A) (hb : Binds X.K fd ps []) (hab : attributeBase o m X.env (eval o X.env) = eval o X.env := by rfl) :
    JE X W (.Attribute o m pos) (qProp C P qo) := by
  refine PE.imp (pe_prop he c hp F hr hb .nil passL hab) fun σ H Qh ⟨Gb, Hb, ρ, G, y, Q, R, E, q, k⟩ => ?_
  refine ⟨Gb, Hb, ρ, G, y, _, R, E, q, fun x v G1 H1 s1 r1 q1 => ?_⟩
  split at q1
  · obtain ⟨rfl, q1⟩ := q1
    cases r1 with
    | obj hg hr =>
      exact ⟨_, _, _, rfl, s1.gh _ _ hg, G1, _, fun _ => False, Q, s1.gh, .cons (.obj hg hr) .nil, q1, fun x v G' H' s r q => k x v G' H' (s1.trans s) r q, fun _ _ _ _ _ _ z => z.elim⟩
  · exact q1.elim
end
end QL

set_option maxHeartbeats 2000000
namespace QL
open PySem PySem.Spec PyProof.Rows L2

/-! ### built-ins called by name -/
abbrev Q1 := List PV → (PV → Prop) → Prop
def qCB (r : Q1) (qa : QA) : QE := fun ρ y Q => qa ρ y fun xs => r xs Q
def SndC (K : PySem.W.Frag) (r : List V → Hp → VK → Prop) (r' : Q1) : Prop := ∀ xs vs G H (Q : PV → Prop) (Qh : VK), Same G H → Reps K G xs vs → r' xs Q → (∀ x v G' H', Step G H G' H' → Rep K G' x v → Q x → Qh v H') → r vs H Qh
section
variable {X : Cx} {W : WX} {id T : String} {x : Str} {e : Expr} {es : List Expr} {qa : QA} {p pos : Pos} {r : List V → Hp → VK → Prop} {r' : Q1}
theorem snd_cb {K : PySem.W.Frag} (s : SndC K r r') {σ : L2.St} {H : Hp} {Qh : VK} (h : tJ K W (qCB r' qa) σ H Qh) : tCB r (tAJ K W qa) σ H Qh := by
  obtain ⟨Gb, Hb, ρ, G, y, Q, R, E, q, k⟩ := h
  exact ⟨Gb, Hb, ρ, G, y, _, R, E, q, fun xs vs G1 H1 s1 r1 q1 => s xs vs G1 H1 Q Qh s1.gh r1 q1 fun x v G2 H2 s2 r2 q2 => k x v G2 H2 (s1.trans s2) r2 q2⟩
theorem je_cb (hc : CallR X (.builtin id) r) (s : SndC X.K r r') (hm : X.mg x = none) (hv : bootBuiltins x = some (.builtin id)) (ha : JA X W (e :: es) qa) (hg : Gl X x := by rfl) (hn : x ≠ "__name__" := by decide) (hdb : (x == ("__debug__" : Str)) = false := by decide)
    (he : starEach (e :: es) X.env = (false, eval e X.env) :: starEach es X.env := by rfl) (hpl : (backTo pos (starEach es X.env)).any (·.1) = false := by rfl) : JE X W (.Call (.Name x p) (e :: es) [] pos) (qCB r' qa) := PE.imp (pe_callB hc hg hm hv ha hn hdb he hpl) fun σ H Q h => snd_cb s h
theorem je_ct (hc : CallR X (.type T) r) (s : SndC X.K r r') (hm : X.mg x = none) (hv : bootBuiltins x = some (.type T)) (ha : JA X W (e :: es) qa) (hg : Gl X x := by rfl) (hn : x ≠ "__name__" := by decide) (hdb : (x == ("__debug__" : Str)) = false := by decide)
    (he : starEach (e :: es) X.env = (false, eval e X.env) :: starEach es X.env := by rfl) (hpl : (backTo pos (starEach es X.env)).any (·.1) = false := by rfl) : JE X W (.Call (.Name x p) (e :: es) [] pos) (qCB r' qa) := PE.imp (pe_callTy hc hg hm hv ha hn hdb he hpl) fun σ H Q h => snd_cb s h
theorem je_cf (hc : CallR X (.builtin id) r) (s : SndC X.K r r') (hm : X.mg x = some (.builtin id)) (ha : JA X W (e :: es) qa) (hg : Gl X x := by rfl) (hdb : (x == ("__debug__" : Str)) = false := by decide)
    (he : starEach (e :: es) X.env = (false, eval e X.env) :: starEach es X.env := by rfl) (hpl : (backTo pos (starEach es X.env)).any (·.1) = false := by rfl) : JE X W (.Call (.Name x p) (e :: es) [] pos) (qCB r' qa) := PE.imp (pe_callBfun hc hg hm ha hdb he hpl) fun σ H Q h => snd_cb s h
def cAbs : Q1 := fun xs Q => match xs with
  | [.int i] => Q (.int (if i < 0 then -i else i))
  | _ => False
def cInt : Q1 := fun xs Q => match xs with
  | [.int i] => Q (.int i)
  | [.bl b] => Q (.int (if b then 1 else 0))
  | _ => False
def cGcd : Q1 := fun xs Q => match xs with
  | [.int i, .int j] => Q (.int ((Nat.gcd i.natAbs j.natAbs : Nat) : Int))
  | _ => False
def cLen : Q1 := fun xs Q => match xs with
  | [.lst ys] => Q (.int ys.length)
  | [.tup ys] => Q (.int ys.length)
  | _ => False
def cLenS : Q1 := fun xs Q => match xs with
  | [.str z] => z.length ≤ 100000 ∧ Q (.int z.length)
  | _ => False
theorem rep1 {K : PySem.W.Frag} {G : Hp} {x : PV} {vs : List V} (r : Reps K G [x] vs) : ∃ v, vs = [v] ∧ Rep K G x v := by
  cases r with
  | cons r t => cases t; exact ⟨_, rfl, r⟩
theorem rep2 {K : PySem.W.Frag} {G : Hp} {x z : PV} {vs : List V} (r : Reps K G [x, z] vs) : ∃ v w, vs = [v, w] ∧ Rep K G x v ∧ Rep K G z w := by
  cases r with
  | cons r t =>
    obtain ⟨w, rfl, h⟩ := rep1 t
    exact ⟨_, w, rfl, r, h⟩
theorem snd_abs {K : PySem.W.Frag} : SndC K (fun xs H Q => ∃ i, xs = [.int i] ∧ Q (.int (if i < 0 then -i else i)) H) cAbs := by
  intro xs vs G H Q Qh hs r q k
  unfold cAbs at q
  split at q
  · obtain ⟨v, rfl, h⟩ := rep1 r
    cases h
    exact ⟨_, rfl, k _ _ G H (.refl hs) (.int _) q⟩
  · exact q.elim
theorem snd_int {K : PySem.W.Frag} : SndC K (fun xs H Q => (∃ i, xs = [.int i] ∧ Q (.int i) H) ∨ ∃ k, xs = [.bl k] ∧ Q (.int (if k then 1 else 0)) H) cInt := by
  intro xs vs G H Q Qh hs r q k
  unfold cInt at q
  split at q
  · obtain ⟨v, rfl, h⟩ := rep1 r
    cases h
    exact .inl ⟨_, rfl, k _ _ G H (.refl hs) (.int _) q⟩
  · obtain ⟨v, rfl, h⟩ := rep1 r
    cases h
    exact .inr ⟨_, rfl, k _ _ G H (.refl hs) (.int _) q⟩
  · exact q.elim
theorem snd_gcd {K : PySem.W.Frag} : SndC K rGcd cGcd := by
  intro xs vs G H Q Qh hs r q k
  unfold cGcd at q
  split at q
  · obtain ⟨v, w, rfl, h1, h2⟩ := rep2 r
    cases h1; cases h2
    exact ⟨_, _, rfl, k _ _ G H (.refl hs) (.int _) q⟩
  · exact q.elim
theorem snd_len {K : PySem.W.Frag} : SndC K (fun xs H Q => ∃ p ys, xs = [.ref p] ∧ (SqL K H p ys ∨ SqT K H p ys) ∧ Q (.int ys.length) H) cLen := by
  intro xs vs G H Q Qh hs r q k
  unfold cLen at q
  split at q
  · obtain ⟨v, rfl, h⟩ := rep1 r
    cases h with
    | @lst a us _ h1 h2 =>
      have e : (us.length : Int) = (_ : Nat) := congrArg _ h2.length.symm
      exact ⟨_, us, rfl, .inl (hs.seq h1), k _ _ G H (.refl hs) (by rw [e]; exact .int _) q⟩
  · obtain ⟨v, rfl, h⟩ := rep1 r
    cases h with
    | @tup a us _ h1 h2 =>
      have e : (us.length : Int) = (_ : Nat) := congrArg _ h2.length.symm
      exact ⟨_, us, rfl, .inr (Same.sqT hs h1), k _ _ G H (.refl hs) (by rw [e]; exact .int _) q⟩
  · exact q.elim
theorem snd_lenS {K : PySem.W.Frag} : SndC K (fun xs H Q => ∃ z, xs = [.str z] ∧ z.length ≤ sizeLine ∧ Q (.int z.length) H) cLenS := by
  intro xs vs G H Q Qh hs r q k
  unfold cLenS at q
  split at q
  · obtain ⟨v, rfl, h⟩ := rep1 r
    cases h
    exact ⟨_, rfl, Nat.le_trans q.1 (by decide), k _ _ G H (.refl hs) (.int _) q.2⟩
  · exact q.elim
theorem je_abs (hm : X.mg "abs" = none) (ha : JA X W [e] qa) (hg : Gl X "abs" := by rfl) (he : starEach [e] X.env = (false, eval e X.env) :: starEach [] X.env := by rfl) (hpl : (backTo pos (starEach [] X.env)).any (·.1) = false := by rfl) : JE X W (.Call (.Name "abs" p) [e] [] pos) (qCB cAbs qa) :=
  je_cb call_abs snd_abs hm (by decide +kernel) ha hg (by decide) (by decide) he hpl
theorem je_toint (hm : X.mg "int" = none) (ha : JA X W [e] qa) (hg : Gl X "int" := by rfl) (he : starEach [e] X.env = (false, eval e X.env) :: starEach [] X.env := by rfl) (hpl : (backTo pos (starEach [] X.env)).any (·.1) = false := by rfl) : JE X W (.Call (.Name "int" p) [e] [] pos) (qCB cInt qa) :=
  je_ct call_int1 snd_int hm (by decide +kernel) ha hg (by decide) (by decide) he hpl
theorem je_gcd {e2 : Expr} {nm : Str} (hm : X.mg nm = some (.builtin "math.gcd")) (ha : JA X W [e, e2] qa) (hg : Gl X nm := by rfl) (hdb : (nm == ("__debug__" : Str)) = false := by decide) (he : starEach [e, e2] X.env = (false, eval e X.env) :: starEach [e2] X.env := by rfl) (hpl : (backTo pos (starEach [e2] X.env)).any (·.1) = false := by rfl) :
    JE X W (.Call (.Name nm p) [e, e2] [] pos) (qCB cGcd qa) := je_cf cr_gcd snd_gcd hm ha hg hdb he hpl
theorem je_len (hm : X.mg "len" = none) (ha : JA X W [e] qa) (hg : Gl X "len" := by rfl) (he : starEach [e] X.env = (false, eval e X.env) :: starEach [] X.env := by rfl) (hpl : (backTo pos (starEach [] X.env)).any (·.1) = false := by rfl) : JE X W (.Call (.Name "len" p) [e] [] pos) (qCB cLen qa) :=
  je_cb call_len_seq snd_len hm (by decide +kernel) ha hg (by decide) (by decide) he hpl
theorem je_lenS (hm : X.mg "len" = none) (ha : JA X W [e] qa) (hg : Gl X "len" := by rfl) (he : starEach [e] X.env = (false, eval e X.env) :: starEach [] X.env := by rfl) (hpl : (backTo pos (starEach [] X.env)).any (·.1) = false := by rfl) : JE X W (.Call (.Name "len" p) [e] [] pos) (qCB cLenS qa) :=
  je_cb call_len_str snd_lenS hm (by decide +kernel) ha hg (by decide) (by decide) he hpl
/-- n.bit_length() -/
def qBits (q : QE) : QE := fun ρ y Q => q ρ y fun x => match x with
  | .int i => Q (.int (Builtin.Int.intBits i : Nat))
  | _ => False
theorem je_bits {o : Expr} {q : QE} {apos : Pos} (h : JE X W o q) (hbase : attributeBase o "bit_length" X.env (eval o X.env) = eval o X.env := by rfl) (hline : (apos.endLine == pos.line) = true := by rfl) : JE X W (.Call (.Attribute o "bit_length" apos) [] [] pos) (qBits q) := by
  refine PE.imp (pe_bits h hbase hline) fun σ H Qh ⟨Gb, Hb, ρ, G, y, Q, R, E, q, k⟩ => ?_
  refine ⟨Gb, Hb, ρ, G, y, _, R, E, q, fun x v G1 H1 s1 r1 q1 => ?_⟩
  split at q1
  · exact ⟨_, rep_int r1, k _ _ G1 H1 s1 (.int _) q1⟩
  · exact q1.elim
end

/-! ### isinstance -/
def tyOfP : PV → Option Value
  | .non => some (.type "NoneType")
  | .bl _ => some (.type "bool")
  | .int _ => some (.type "int")
  | .str _ => some (.type "str")
  | .lst _ => some (.type "list")
  | .tup _ => some (.type "tuple")
  | .obj C _ => some (.ref C)
  | _ => none
/-- what isinstance and == ask of an own class -/
structure IsC (K : PySem.W.Frag) (C : Addr) : Prop where
  cl : Cls K C
  ha : PySem.W.findIn K (.ref C) "__class__" = some (some (.builtin "object.__class__"))
  hn : PySem.W.specialIn K (.builtin "object.__class__") "__get__" = some (some (.builtin "getset_descriptor.__get__"))
  htk : PySem.W.takesIn K (.builtin "object.__class__") = some true
  hm : PySem.W.mroIn K C (.type "object") = some true
theorem tyx_of {K : PySem.W.Frag} {G H : Hp} {x : PV} {v : V} {t : Value} (s : Same G H) (r : Rep K G x v) (e : tyOfP x = some t) (hc : ∀ C fs, x = .obj C fs → IsC K C) : TyX K H v t := by
  cases r with
  | non => cases e; exact .base .non
  | bl b => cases e; exact .base (.bl b)
  | int i => cases e; exact .base (.int i)
  | str z => cases e; exact .base (.str z)
  | ty n => cases e
  | adr a => cases e
  | lst h hr =>
    cases e
    rcases s.seq h with (h | ⟨o, h⟩) | ⟨o, its, n, hk, c, _⟩
    · exact .base (.lst h)
    · exact .base (.frz h)
    · exact .kList hk c
  | tup h hr =>
    cases e
    rcases Same.sqT s h with (h | ⟨o, h⟩) | ⟨o, its, n, hk, c, _⟩
    · exact .base (.tup h)
    · exact .fTuple h
    · exact .kTuple hk c
  | obj h hr =>
    cases e
    have c := hc _ _ rfl
    exact .base (.ins (s _ _ h) c.cl c.ha c.hn c.htk c.hm)
/-- r answers isinstance(x, cv) -/
def KitR (K : PySem.W.Frag) (cv : Value) (r : PV → Option Bool) : Prop := ∀ x b, r x = some b → ∃ t, tyOfP x = some t ∧ (∀ C fs, x = .obj C fs → IsC K C) ∧ PySem.W.kitOne K t cv = some b
def qIsi (r : PV → Option Bool) (q : QE) : QE := fun ρ y Q => q ρ y fun x => match r x with
  | some b => Q (.bl b)
  | none => False
section
variable {X : Cx} {W : WX} {e : Expr} {q : QE} {cn : Str} {p p2 pos : Pos} {r : PV → Option Bool}
theorem je_isi0 {ce : Expr} {c : V} {cv : Value} (hk : KitR X.K cv r) (hm : X.mg "isinstance" = none) (h : JE X W e q) (hc : PE X ce (tC c)) (hcv : ClsV c cv) (hg : Gl X "isinstance" := by rfl)
    (hs : starEach [e, ce] X.env = (false, eval e X.env) :: starEach [ce] X.env := by rfl) (hs2 : starEach [ce] X.env = (false, eval ce X.env) :: starEach [] X.env := by rfl) (hpl : (backTo pos (starEach [ce] X.env)).any (·.1) = false := by rfl) :
    JE X W (.Call (.Name "isinstance" p) [e, ce] [] pos) (qIsi r q) := by
  refine PE.imp (pe_callB call_isi hg hm (by decide +kernel) (pa_cons h (pa_cons hc pa_nil hs2) hs) (by decide) (by decide) hs hpl) fun σ H Qh ⟨Gb, Hb, ρ, G, y, Q, R, E, q, k⟩ => ?_
  refine ⟨Gb, Hb, ρ, G, y, _, R, E, q, fun x v G1 H1 s1 r1 q1 => ?_⟩
  split at q1
  · rename_i b eb
    obtain ⟨t, e1, e2, e3⟩ := hk x b eb
    exact ⟨v, c, t, cv, b, rfl, hcv, tyx_of s1.gh r1 e1 e2, e3, k _ _ G1 H1 s1 (.bl b) q1⟩
  · exact q1.elim
theorem je_isiC {C : Addr} (hk : KitR X.K (.ref C) r) (hm : X.mg "isinstance" = none) (h : JE X W e q) (hc : X.mg cn = some (.ref C)) (hg : Gl X "isinstance" := by rfl) (hg2 : Gl X cn := by rfl) (hd : (cn == ("__debug__" : Str)) = false := by decide)
    (hs : starEach [e, .Name cn p2] X.env = (false, eval e X.env) :: starEach [.Name cn p2] X.env := by rfl) (hs2 : starEach [.Name cn p2] X.env = (false, eval (.Name cn p2) X.env) :: starEach [] X.env := by rfl) (hpl : (backTo pos (starEach [.Name cn p2] X.env)).any (·.1) = false := by rfl) :
    JE X W (.Call (.Name "isinstance" p) [e, .Name cn p2] [] pos) (qIsi r q) := je_isi0 (c := .ref C) hk hm h (pe_glob hg2 hc rfl hd) (.own C) hg hs hs2 hpl
theorem je_isiT {n : String} (hk : KitR X.K (.type n) r) (hm : X.mg "isinstance" = none) (h : JE X W e q) (hc : X.mg cn = none) (hv : bootBuiltins cn = some (.type n) := by decide +kernel) (hg : Gl X "isinstance" := by rfl) (hg2 : Gl X cn := by rfl) (hn : cn ≠ "__name__" := by decide) (hd : (cn == ("__debug__" : Str)) = false := by decide)
    (hs : starEach [e, .Name cn p2] X.env = (false, eval e X.env) :: starEach [.Name cn p2] X.env := by rfl) (hs2 : starEach [.Name cn p2] X.env = (false, eval (.Name cn p2) X.env) :: starEach [] X.env := by rfl) (hpl : (backTo pos (starEach [.Name cn p2] X.env)).any (·.1) = false := by rfl) :
    JE X W (.Call (.Name "isinstance" p) [e, .Name cn p2] [] pos) (qIsi r q) := je_isi0 (c := .ty n) hk hm h (pe_bltn hg2 hc hv rfl hn hd) (.ty n) hg hs hs2 hpl
end

/-! ### operators of own classes -/
section
variable {X : Cx} {W : WX} {a b : Expr} {qa qb : QE} {pos : Pos} {k : Nat} {f C : Addr} {fd : FuncData} {ps : List Str} {P : PSpec}
def qBin (C : Addr) (P : PSpec) (qa qb : QE) : QE := fun ρ y Q => qa ρ y fun x => qb ρ y fun z => match x, z with
  | .obj C1 fs, .obj C2 gs => C1 = C ∧ C2 = C ∧ P [.obj C1 fs, .obj C2 gs] y Q
  | _, _ => False
def qUna (C : Addr) (P : PSpec) (qa : QE) : QE := fun ρ y Q => qa ρ y fun x => match x with
  | .obj C1 fs => C1 = C ∧ P [.obj C1 fs] (fun _ => False) Q
  | _ => False
theorem snd_two {K : PySem.W.Frag} {σ : L2.St} {H G Gb Hb : Hp} {ρ : PSt} {y : Y} {R' : PV → PV → Prop} (R : RelS K Gb Hb ρ σ G H) (E : ExOk K W σ G H y) (h : qa ρ y fun x => qb ρ y fun z => R' x z) :
    tJ K W qa σ H fun v H1 => tJ K W qb σ H1 fun w H2 => ∃ (G2 : Hp) (x z : PV), Step G H G2 H2 ∧ Rep K G2 x v ∧ Rep K G2 z w ∧ R' x z :=
  ⟨Gb, Hb, ρ, G, y, _, R, E, h, fun x v G1 H1 s1 r1 q1 => ⟨Gb, Hb, ρ, G1, y, _, R.mono s1, E.mono s1, q1, fun z w G2 H2 s2 r2 q2 => ⟨G2, x, z, s1.trans s2, r1.mono s2.gg, r2, q2⟩⟩⟩
theorem inst_of {pins : List (Addr × Obj)} {σ : L2.St} {H : Hp} {s : Shared} {a dx : Addr} {gs : List (Str × V)} (I : Inv X pins σ H s) (e : H a = some (.ins C dx gs)) : ∃ od, PySem.W.InstAt s.heap a (PySem.W.instObj C dx) C (some od) := by
  obtain ⟨mA, O, _⟩ := ins_get I.hok e
  obtain ⟨od, J, _⟩ := O.look
  exact ⟨od, J⟩
theorem je_bin {op : Operator} (hC : PySem.W.selfFirst X.K C = true) (hs : PySem.W.findIn X.K (.ref C) (PySem.dunder op.info.2) = some (some (.ref f))) (hf : PySem.W.isFn X.K (.ref f) = true) (F : FnOk X.prog X.w X.K X.mg X.base (L2.CX X.prog X.w) k f fd ps (spP X.K P)) (hr : Room k X.A) (hb : Binds X.K fd ps [])
    (tk : Tk X W) (h1 : JE X W a qa) (h2 : JE X W b qb) : JE X W (.BinOp a op b pos) (qBin C P qa qb) := by
  refine ⟨fun pins s σ H Qh I ⟨Gb, Hb, ρ, G, y, Q, R, E, q, kk⟩ => ?_⟩
  refine wpAny_BinOp (binT h1 h2 I (snd_two R E q) fun v u s2 x z H2 I2 rx rz ⟨G2, x', z', st, r1, r2, q2⟩ => ?_)
  split at q2
  · obtain ⟨rfl, rfl, q2⟩ := q2
    cases r1 with
    | @obj _ a1 _ _ _ g1 f1 =>
      cases r2 with
      | @obj _ a2 _ _ _ g2 f2 =>
        cases (show v = Value.ref a1 from rx)
        cases (show u = Value.ref a2 from rz)
        obtain ⟨od, J⟩ := inst_of I2 (st.gh _ _ g1)
        obtain ⟨od', J'⟩ := inst_of I2 (st.gh _ _ g2)
        obtain ⟨m, hF⟩ := I2.fr
        refine PySem.W.binop_K hF I2.ok.mod.kin J J'.type hC hs hf ?_
        refine wpAny_mono (run_fnSD (E := WE W) (us := [.ref a1, .ref a2]) (vs := [.ref a1, .ref a2]) F hr hb .nil (tk σ) I2 (.cons rfl (.cons rfl .nil)) (sp_call (dps := []) E st (.cons (.obj g1 f1) (.cons (.obj g2 f2) .nil)) .nil q2 kk)) (fun w s' z => ?_) fun _ _ x => x
        obtain ⟨z', H', I', rz, qz⟩ := z
        exact SlX.cmpback rz ⟨z', H', I', rz, qz⟩
  · exact q2.elim
/-- the callee runs below the running body; it lets nothing out -/
theorem run_in {A : Around} {pins : List (Addr × Obj)} {σ : L2.St} {H : Hp} {s : Shared} {Q : VK} {us : List Value} {ws : List V} {sp : Sp} {E' : Value → Shared → Prop} (F : FnOk X.prog X.w X.K X.mg X.base (L2.CX X.prog X.w) k f fd ps sp) (hr : Room k A) (e0 : Env0 X.prog X.w X.K X.mg X.base A X.stack s H) (hb : Binds X.K fd ps []) (I : Inv X pins σ H s)
    (r : Vals ws us) (h : sp ws H Q E0) : wpAny (model X.prog X.w) A (call (.ref f) us) (EP X pins σ Q) E' s := by
  have hl : us.length = ps.length := by rw [← r.length]; exact F.len _ _ _ _ h
  have bb := hb s us I.kIn (by rw [List.append_nil]; exact hl)
  rw [List.append_nil] at bb
  refine wpAny_call (codeAny_mono (F.run A X.stack s H ⟨us, []⟩ us ws Q E0 hr e0 bb r h) fun r s' hq => ?_)
  cases r with
  | error e =>
    obtain ⟨_, _, _, _, _, _, _, _, _, _, _, _, z⟩ := hq
    exact z.elim
  | ok fl =>
    cases fl with
    | ret u => exact I.after hq
    | next => exact False.elim hq
    | brk => exact False.elim hq
    | cont => exact False.elim hq
theorem sp_in {G H G1 H1 : Hp} {Q : PV → Prop} {Qh : VK} {xs : List PV} {vs : List V} (s1 : Step G H G1 H1) (r1 : Reps X.K G1 xs vs) (q1 : P xs (fun _ => False) Q) (k : ∀ x v G' H', Step G H G' H' → Rep X.K G' x v → Q x → Qh v H') : spP X.K P vs H1 Qh E0 :=
  ⟨G1, xs, fun _ => False, Q, s1.gh, r1, q1, fun x v G' H' s r q => k x v G' H' (s1.trans s) r q, fun _ _ _ _ _ _ z => z.elim⟩
theorem je_una (hs : PySem.W.findIn X.K (.ref C) "__neg__" = some (some (.ref f))) (hf : PySem.W.isFn X.K (.ref f) = true) (F : FnOk X.prog X.w X.K X.mg X.base (L2.CX X.prog X.w) k f fd ps (spP X.K P)) (hr : Room k X.A) (hb : Binds X.K fd ps [])
    (h1 : JE X W a qa) : JE X W (.UnaryOp .USub a pos) (qUna C P qa) := by
  refine ⟨fun pins s σ H Qh I ⟨Gb, Hb, ρ, G, y, Q, R, E, q, kk⟩ => ?_⟩
  refine UnaryOp_ (thn (h1.run pins s σ H (fun v H1 => ∃ (G1 : Hp) (x : PV), Step G H G1 H1 ∧ Rep X.K G1 x v ∧ (match x with | .obj C1 fs => C1 = C ∧ P [.obj C1 fs] (fun _ => False) Q | _ => False)) I ⟨Gb, Hb, ρ, G, y, _, R, E, q, fun x v G1 H1 s1 r1 q1 => ⟨G1, x, s1, r1, q1⟩⟩) fun u s1 ⟨v, H1, I1, rx, G1, x, st, r1, q1⟩ => ?_)
  split at q1
  · obtain ⟨rfl, q1⟩ := q1
    cases r1 with
    | @obj _ a1 _ _ _ g1 f1 =>
      cases (show u = Value.ref a1 from rx)
      obtain ⟨od, J⟩ := inst_of I1 (st.gh _ _ g1)
      obtain ⟨m, hF⟩ := I1.fr
      exact PySem.W.ksp_neg hF I1.ok.mod.kin J hs hf (run_in F hr I1.env0 hb I1 (ws := [.ref a1]) (us := [.ref a1]) (.cons rfl .nil) (sp_in (X := X) st (.cons (.obj g1 f1) .nil) q1 kk))
  · exact q1.elim
/-- abs(x) -/
def rAbsO (K : PySem.W.Frag) (C : Addr) (P : PSpec) : List V → Hp → VK → Prop := fun xs H Q => ∃ a dx gs, xs = [.ref a] ∧ H a = some (.ins C dx gs) ∧ spP K P [.ref a] H Q E0
theorem call_absO (hs : PySem.W.findIn X.K (.ref C) "__abs__" = some (some (.ref f))) (hf : PySem.W.isFn X.K (.ref f) = true) (F : FnOk X.prog X.w X.K X.mg X.base (L2.CX X.prog X.w) k f fd ps (spP X.K P)) (hr : Room (k + 1) X.A) (hb : Binds X.K fd ps []) : CallR X (.builtin "abs") (rAbsO X.K C P) := by
  intro pins s σ H xs us Q I r h
  obtain ⟨a, dx, gs, rfl, ha, q⟩ := h
  obtain ⟨u, rfl, ru⟩ := vals1 r
  cases (show u = Value.ref a from ru)
  obtain ⟨od, J⟩ := inst_of I ha
  exact PySem.W.abs_K I.kIn J hs hf (run_in F hr.in1 I.env0.in1 hb I (ws := [.ref a]) (us := [.ref a]) (.cons rfl .nil) q)
def cAbsO (C : Addr) (P : PSpec) : Q1 := fun xs Q => match xs with
  | [.obj C1 fs] => C1 = C ∧ P [.obj C1 fs] (fun _ => False) Q
  | _ => False
theorem snd_absO {K : PySem.W.Frag} : SndC K (rAbsO K C P) (cAbsO C P) := by
  intro xs vs G H Q Qh hs r q k
  unfold cAbsO at q
  split at q
  · obtain ⟨rfl, q⟩ := q
    obtain ⟨v, rfl, h⟩ := rep1 r
    cases h with
    | obj h1 h2 => exact ⟨_, _, _, rfl, hs _ _ h1, G, _, fun _ => False, Q, hs, .cons (.obj h1 h2) .nil, q, fun x v G' H' s r q => k x v G' H' s r q, fun _ _ _ _ _ _ z => z.elim⟩
  · exact q.elim
theorem je_absO {e : Expr} {qa : QA} {p pos : Pos} (hs : PySem.W.findIn X.K (.ref C) "__abs__" = some (some (.ref f))) (hf : PySem.W.isFn X.K (.ref f) = true) (F : FnOk X.prog X.w X.K X.mg X.base (L2.CX X.prog X.w) k f fd ps (spP X.K P)) (hr : Room (k + 1) X.A) (hb : Binds X.K fd ps [])
    (hm : X.mg "abs" = none) (ha : JA X W [e] qa) (hg : Gl X "abs" := by rfl) (he : starEach [e] X.env = (false, eval e X.env) :: starEach [] X.env := by rfl) (hpl : (backTo pos (starEach [] X.env)).any (·.1) = false := by rfl) : JE X W (.Call (.Name "abs" p) [e] [] pos) (qCB (cAbsO C P) qa) :=
  je_cb (call_absO hs hf F hr hb) snd_absO hm (by decide +kernel) ha hg (by decide) (by decide) he hpl
/-- x == z, x an instance whose class has a def as __eq__; nf: which z are no instances of a class below -/
def NfR (K : PySem.W.Frag) (C : Addr) (nf : PV → Bool) : Prop := ∀ z, nf z = true → ∃ t, tyOfP z = some t ∧ (∀ C fs, z = .obj C fs → IsC K C) ∧ PySem.W.notFirst K C t = true
def qEqO (C : Addr) (nf : PV → Bool) (neg : Bool) (P : PSpec) (qa qb : QE) : QE := fun ρ y Q => qa ρ y fun x => qb ρ y fun z => match x with
  | .obj C1 fs => C1 = C ∧ nf z = true ∧ P [.obj C1 fs, z] (fun _ => False) fun r => match r with
    | .bl k => Q (.bl (neg ^^ k))
    | _ => False
  | _ => False
theorem eq_core {nf : PV → Bool} (hnf : NfR X.K C nf) (hs : PySem.W.findIn X.K (.ref C) "__eq__" = some (some (.ref f))) (hf : PySem.W.isFn X.K (.ref f) = true) (F : FnOk X.prog X.w X.K X.mg X.base (L2.CX X.prog X.w) k f fd ps (spP X.K P)) (hr : Room (k + 1) X.A) (hb : Binds X.K fd ps [])
    {pins : List (Addr × Obj)} {σ : L2.St} {s2 : Shared} {H G : Hp} {x z : V} {v u : Value} {Q : PV → Prop} {Qh : VK} {H2 : Hp} (I2 : Inv X pins σ H2 s2) (rx : RelV x v) (rz : RelV z u) (kk : ∀ x v G' H', Step G H G' H' → Rep X.K G' x v → Q x → Qh v H')
    (h : ∃ (G2 : Hp) (x' z' : PV), Step G H G2 H2 ∧ Rep X.K G2 x' x ∧ Rep X.K G2 z' z ∧ (match x' with | .obj C1 fs => C1 = C ∧ nf z' = true ∧ P [.obj C1 fs, z'] (fun _ => False) (fun r => match r with | .bl k => Q (.bl (false ^^ k)) | _ => False) | _ => False)) :
    wpAny (model X.prog X.w) X.A (compareOp .Eq v u) (EP X pins σ Qh) X.xe s2 := by
  obtain ⟨G2, x', z', st, r1, r2, q2⟩ := h
  split at q2
  · obtain ⟨rfl, hz, q2⟩ := q2
    obtain ⟨t, e1, e2, e3⟩ := hnf z' hz
    obtain ⟨Pz, Z, pz, _⟩ := kit_of I2 rz (tyx_of st.gh r2 e1 e2)
    cases r1 with
    | @obj _ a1 _ _ _ g1 f1 =>
      cases (show v = Value.ref a1 from rx)
      obtain ⟨od, J⟩ := inst_of I2 (st.gh _ _ g1)
      obtain ⟨m, hF⟩ := I2.fr
      refine PySem.W.cmp_K (op := .Eq) (tb := t) hr.units0 hF I2.ok.mod.kin J (Z.ty (model X.prog X.w) s2.heap I2.kIn pz) e3 hs hf ?_
      refine wpAny_mono (run_in (us := [.ref a1, u]) (ws := [.ref a1, z]) F (hr.mono (Nat.le_succ _)) I2.env0 hb I2 (.cons rfl (.cons rz .nil)) (sp_in (X := X) (Qh := fun v' H' => ∃ b : Bool, v' = .bl b ∧ Qh (.bl b) H') st (.cons (.obj g1 f1) (.cons r2 .nil)) q2 fun x v G' H' s r q => ?_)) (fun w s' z => ?_) fun _ _ x => x
      · split at q
        · cases r
          refine ⟨_, rfl, kk _ _ G' H' s (.bl _) (by simpa using q)⟩
        · exact q.elim
      · obtain ⟨z', H', I', rz, b, rfl, qz⟩ := z
        exact SlX.cmpback rz ⟨_, H', I', rz, qz⟩
  · exact q2.elim
theorem ne_core {nf : PV → Bool} (hnf : NfR X.K C nf) (hne : PySem.W.findIn X.K (.ref C) "__ne__" = some (some (.builtin "object.__ne__"))) (hmr : PySem.W.mroIn X.K C (.type "object") = some true) (hs : PySem.W.findIn X.K (.ref C) "__eq__" = some (some (.ref f))) (hf : PySem.W.isFn X.K (.ref f) = true) (F : FnOk X.prog X.w X.K X.mg X.base (L2.CX X.prog X.w) k f fd ps (spP X.K P)) (hr : Room (k + 1) X.A) (hb : Binds X.K fd ps [])
    {pins : List (Addr × Obj)} {σ : L2.St} {s2 : Shared} {H G : Hp} {x z : V} {v u : Value} {Q : PV → Prop} {Qh : VK} {H2 : Hp} (I2 : Inv X pins σ H2 s2) (rx : RelV x v) (rz : RelV z u) (kk : ∀ x v G' H', Step G H G' H' → Rep X.K G' x v → Q x → Qh v H')
    (h : ∃ (G2 : Hp) (x' z' : PV), Step G H G2 H2 ∧ Rep X.K G2 x' x ∧ Rep X.K G2 z' z ∧ (match x' with | .obj C1 fs => C1 = C ∧ nf z' = true ∧ P [.obj C1 fs, z'] (fun _ => False) (fun r => match r with | .bl k => Q (.bl (true ^^ k)) | _ => False) | _ => False)) :
    wpAny (model X.prog X.w) X.A (compareOp .NotEq v u) (EP X pins σ Qh) X.xe s2 := by
  obtain ⟨G2, x', z', st, r1, r2, q2⟩ := h
  split at q2
  · obtain ⟨rfl, hz, q2⟩ := q2
    obtain ⟨t, e1, e2, e3⟩ := hnf z' hz
    obtain ⟨Pz, Z, pz, _⟩ := kit_of I2 rz (tyx_of st.gh r2 e1 e2)
    cases r1 with
    | @obj _ a1 _ _ _ g1 f1 =>
      cases (show v = Value.ref a1 from rx)
      obtain ⟨od, J⟩ := inst_of I2 (st.gh _ _ g1)
      obtain ⟨m, hF⟩ := I2.fr
      refine PySem.W.ne_K (tb := t) (by have := hr.units; omega) hF I2.ok.mod.kin J (Z.ty (model X.prog X.w) s2.heap I2.kIn pz) e3 hne hmr hs hf ?_
      refine wpAny_mono (run_in (us := [.ref a1, u]) (ws := [.ref a1, z]) F hr.in1 I2.env0.in1 hb I2 (.cons rfl (.cons rz .nil)) (sp_in (X := X) (Qh := fun v' H' => ∃ b : Bool, v' = .bl b ∧ Qh (.bl (!b)) H') st (.cons (.obj g1 f1) (.cons r2 .nil)) q2 fun x v G' H' s r q => ?_)) (fun w s' z => ?_) fun _ _ x => x
      · split at q
        · cases r
          refine ⟨_, rfl, kk _ _ G' H' s (.bl _) (by simpa using q)⟩
        · exact q.elim
      · obtain ⟨z', H', I', rz, b, rfl, qz⟩ := z
        cases (show w = Value.bool b from rz)
        exact ⟨b, rfl, .bl (!b), H', I', rfl, qz⟩
  · exact q2.elim
theorem je_eqO {nf : PV → Bool} (hnf : NfR X.K C nf) (hs : PySem.W.findIn X.K (.ref C) "__eq__" = some (some (.ref f))) (hf : PySem.W.isFn X.K (.ref f) = true) (F : FnOk X.prog X.w X.K X.mg X.base (L2.CX X.prog X.w) k f fd ps (spP X.K P)) (hr : Room (k + 1) X.A) (hb : Binds X.K fd ps [])
    (h1 : JE X W a qa) (h2 : JE X W b qb) : JE X W (.Compare a [.Eq] [b] pos) (qEqO C nf false P qa qb) := by
  refine ⟨fun pins s σ H Qh I ⟨Gb, Hb, ρ, G, y, Q, R, E, q, kk⟩ => ?_⟩
  exact wpAny_Compare1 (binT h1 h2 I (snd_two R E q) fun v u s2 x z H2 I2 rx rz hh => eq_core hnf hs hf F hr hb I2 rx rz kk hh) (nomark _)
theorem je_neO {nf : PV → Bool} (hnf : NfR X.K C nf) (hne : PySem.W.findIn X.K (.ref C) "__ne__" = some (some (.builtin "object.__ne__"))) (hmr : PySem.W.mroIn X.K C (.type "object") = some true) (hs : PySem.W.findIn X.K (.ref C) "__eq__" = some (some (.ref f))) (hf : PySem.W.isFn X.K (.ref f) = true) (F : FnOk X.prog X.w X.K X.mg X.base (L2.CX X.prog X.w) k f fd ps (spP X.K P)) (hr : Room (k + 1) X.A) (hb : Binds X.K fd ps [])
    (h1 : JE X W a qa) (h2 : JE X W b qb) : JE X W (.Compare a [.NotEq] [b] pos) (qEqO C nf true P qa qb) := by
  refine ⟨fun pins s σ H Qh I ⟨Gb, Hb, ρ, G, y, Q, R, E, q, kk⟩ => ?_⟩
  exact wpAny_Compare1 (binT h1 h2 I (snd_two R E q) fun v u s2 x z H2 I2 rx rz hh => ne_core hnf hne hmr hs hf F hr hb I2 rx rz kk hh) (nomark _)
end
end QL

set_option maxHeartbeats 2000000
/-! ### isinstance of an exception that has its own dict -/
namespace PySem.W
open PySem PySem.Spec PySem.Calls PyProof.Rows
section
variable {prog : Program} {w : World} {A : Around} {E : Value → Shared → Prop} {s : Shared} {K : Frag} {x D : Addr} {ox od : Obj}
theorem kin_classD {Q : Option Value → Shared → Prop} (hga : findIn K (.ref D) "__getattribute__" = some (some (.builtin "BaseException.__getattribute__"))) (hgt : findIn K (.ref D) "__getattr__" = some none) (hsub : subIn K (.ref D) (.type "BaseException") = some true)
    (hdct : hasDictIn K D = true) (ha : findIn K (.ref D) "__class__" = some (some (.builtin "object.__class__")))
    (hn : specialIn K (.builtin "object.__class__") "__get__" = some (some (.builtin "getset_descriptor.__get__"))) (htk : takesIn K (.builtin "object.__class__") = some true) (hm : mroIn K D (.type "object") = some true)
    (X : K.In s.heap) (I : InstAt s.heap x ox D (some od)) (h : Q (some (.ref D)) { s with toks := s.toks + 1 }) : wpAny (model prog w) A (getAttr? (.ref x) "__class__") Q E s := by
  have hf : findObj K D (some od) "__class__" = some (.bind (.builtin "getset_descriptor.__get__") (.builtin "object.__class__")) := findObj_data (by obtain ⟨cd, hc, _⟩ := any_some hdct; rw [hc]; rfl) ha hn htk
  obtain ⟨hp, g, d, t, os⟩ := s
  have L0 := I.type (M := model prog w)
  have L1 := looks_findIn (M := model prog w) X hga
  have L2 := looks_findIn (M := model prog w) X hgt
  have L3 := looks_find (M := model prog w) X I hf
  have sub : Looks (model prog w) hp (isInstance (.ref x) (.type "BaseException")) true := L0.andThen (looks_subIn X hsub)
  have hx0 : (false && onTheHeap (Value.builtin "BaseException.__getattribute__")) = false := rfl
  have hx2 : (Value.builtin "BaseException.__getattribute__" == Value.builtin "object.__getattribute__") = false := by decide +kernel
  have hx1 : (onTheHeap (Value.ref D) && Value.builtin "BaseException.__getattribute__" == Value.builtin "object.__getattribute__") = false := by rw [hx2]; rfl
  unfold getAttr? getAttrBy? getAttrBy
  refine wpAny_bind (wpAny_mkText (wpAny_bind (wpAny_attempt (wpAny_holding (wpAny_bind (L0.at (wpAny_bind (L1.at ?_))))))))
  show wpAny _ _ (if (onTheHeap (Value.ref D) && Value.builtin "BaseException.__getattribute__" == Value.builtin "object.__getattribute__") = true then _ else _) _ _ _
  rw [hx1, if_neg Bool.false_ne_true]
  unfold getAttrByItsOwn hookBefore
  refine wpAny_bind ?_
  rw [if_pos (show onTheHeap (Value.ref D) = true from rfl)]
  refine L2.at ?_
  refine wpAny_bind (wpAny_attempt (wpAny_holding ?_))
  unfold callGetattribute
  rw [hx0, if_neg Bool.false_ne_true]
  unfold boundAndCalled
  rw [PySem.F.excAttr_ValueError.ga.bind (.ref x)]
  refine wpAny_bind (wpAny_pure ?_)
  show wpAny _ _ (call (.builtin "BaseException.__getattribute__") [.ref x, .str "__class__" t]) _ _ _
  refine wpAny_call (codeAny_call_builtin PySem.F.excAttr_ValueError.ga.plain PySem.F.entry_bexc_ga ?_)
  refine @check_slot (model prog w) _ _ ⟨hp, g, d, t + 1, os⟩ "BaseException.__getattribute__" "BaseException" "__getattribute__" (.ref x) [.str "__class__" t] [] _ (by decide +kernel) (by decide +kernel) sub (PySem.F.args_bexc_ga (.ref x) (.str "__class__" t)) ?_
  unfold Builtin.«object.__getattribute__»
  refine wpAny_bind (wpAny_of_eq (a := ((Value.ref x : Value), [Value.str "__class__" t])) (by first | rfl | (simp only [slotArgs]; rfl)) ?_)
  refine wpAny_bind (wpAny_pure (wpAny_bind (L0.at (wpAny_bind (L3.at ?_)))))
  show wpAny _ _ (holding [Value.builtin "object.__class__"] (call (.builtin "getset_descriptor.__get__") [.builtin "object.__class__", .ref x, .ref D]) >>= ret) _ _ _
  refine wpAny_bind (wpAny_holding (wpAny_call (class_get (s := ⟨hp, g, d, t + 1, os⟩) (ox := ox) (od := some od) X I hm ?_)))
  refine wpAny_pure ?_
  show wpAny _ _ (handedOut (.ref D)) _ _ _
  rw [handedOut_of (v := .ref D) rfl]
  first
    | exact wpAny_pure (wpAny_pure h)
    | exact wpAny_pure h
    | exact wpAny_pure (wpAny_bind (wpAny_pure (wpAny_pure h)))
theorem kitx_excD (hga : findIn K (.ref D) "__getattribute__" = some (some (.builtin "BaseException.__getattribute__"))) (hgt : findIn K (.ref D) "__getattr__" = some none) (hsub : subIn K (.ref D) (.type "BaseException") = some true) (hdct : hasDictIn K D = true) (ha : findIn K (.ref D) "__class__" = some (some (.builtin "object.__class__")))
    (hn : specialIn K (.builtin "object.__class__") "__get__" = some (some (.builtin "getset_descriptor.__get__"))) (htk : takesIn K (.builtin "object.__class__") = some true) (hm : mroIn K D (.type "object") = some true) :
    KitX K (.ref x) (.ref D) (fun h => InstAt h x ox D (some od)) where
  ty := fun _ _ _ I => I.type
  it := fun _ _ X _ => by
    obtain ⟨cdD, hcD, _⟩ := any_some hdct
    unfold clsIn at hcD
    split at hcD
    · rename_i c' d' cd' sl' ho
      intro A' Q' E' s' k q
      unfold isType loadHead
      exact wpAny_bind (wpAny_loadPart (k _ _ (X _ _ ho)) (wpAny_pure q))
    · cases hcD
  ne := fun h tp dd its n sl X htp => by
    obtain ⟨cdD, hcD, _⟩ := any_some hdct
    refine Bool.eq_false_iff.mpr fun q => ?_
    have e : D = tp := Value.ref.inj (beq_iff_eq.mp q)
    subst e
    unfold clsIn at hcD
    split at hcD
    · rename_i c' d' cd' sl' ho
      have z := (X _ _ ho).symm.trans htp
      cases z
    · cases hcD
  ca := fun X I k => kin_classD hga hgt hsub hdct ha hn htk hm X I k
end
end PySem.W
namespace QL
open PySem PySem.Spec PyProof.Rows L2

/-! ### exceptions: made and raised -/
/-- of an exception's __init__: the fields of the values given -/
def spX (C : Addr) (n : Nat) (Fv : List V → List (Str × V)) : Sp := fun vs H Q _ => ∃ (a : Addr) (ws : List V), vs = .ref a :: ws ∧ ws.length = n ∧ H a = some (exo a C none) ∧
  ∀ (d : Addr) (H' : Hp), H d = none → d ≠ a → H' a = some (exo a C (some d)) → H' d = some (exd d (Fv ws)) → (∀ b, b ≠ a → b ≠ d → H' b = H b) → Q .non H'
/-- an expression that makes an exception -/
def tXJ (K : PySem.W.Frag) (W : WX) (C : Addr) (n : Nat) (Fp : List PV → List (Str × PV)) (q : QA) : L2.St → Hp → XK → Prop := fun σ H Qx => ∃ (Gb Hb : Hp) (ρ : PSt) (G : Hp) (y : Y) (Q : PX → Prop), RelS K Gb Hb ρ σ G H ∧ ExOk K W σ G H y ∧ (q ρ y fun xs => xs.length = n ∧ Q ⟨C, Fp xs⟩) ∧
  ∀ p d G' H', Step G H G' H' → RepX K G' H' p d → Q p → Qx (.ref p.C) (some d) H'
/-- the fields by values are those by pure values -/
def FldR (K : PySem.W.Frag) (Fv : List V → List (Str × V)) (Fp : List PV → List (Str × PV)) : Prop := ∀ G xs vs, Reps K G xs vs → RepF K G (Fp xs) (Fv vs)
section
variable {X : Cx} {W : WX} {x : Str} {C fI : Addr} {k n : Nat} {fd : FuncData} {ps : List Str} {e : Expr} {es : List Expr} {qa : QA} {p pos pos2 : Pos} {Fv : List V → List (Str × V)} {Fp : List PV → List (Str × PV)}
theorem mk_call {pins : List (Addr × Obj)} {σ : L2.St} {H1 : Hp} {s1 : Shared} {Qx : XK} {us : List Value} {vs : List V} (T : OexC X.K C) (iC : PySem.W.findIn X.K (.ref C) "__init__" = some (some (.ref fI))) (tI : PySem.W.typeIn X.K (.ref fI) = some (.type "function"))
    (F1 : FnOk X.prog X.w X.K X.mg X.base (L2.CX X.prog X.w) k fI fd ps (spX C n Fv)) (hr : Room (k + 1) X.A) (hb : Binds X.K fd ps []) (I1 : Inv X pins σ H1 s1) (r1 : Vals vs us) (hn : vs.length = n) (hz : vs.length ≤ 1000)
    (q1 : ∀ (a d : Addr) (H' : Hp), H1 a = none → H1 d = none → d ≠ a → H' d = some (.xd (Fv vs)) → (∀ b, b ≠ a → b ≠ d → H' b = H1 b) → H' a = none → Qx (.ref C) (some d) H') :
    wpAny (model X.prog X.w) X.A (call (.ref C) us) (MkP X pins σ Qx) X.xe s1 := by
  obtain ⟨nm, q, N, bs, bm, sn, sub, ab, col, dd, k0, k1, k2, k3, k5, hC, hbm⟩ := T.cls
  obtain ⟨hp, g, dr, tk, os⟩ := s1
  have hsz : hp.objs.size ≤ hp.objs.size + 1 := Nat.le_succ _
  have hn1 : H1 (hp.objs.size + 1) = none := I1.hok.fresh hsz
  have hq : spX C n Fv (.ref (hp.objs.size + 1) :: vs) (upd H1 (hp.objs.size + 1) (exo (hp.objs.size + 1) C none)) (fun v H2 => v = .non ∧ ∃ (d : Addr) (fs : List (Str × V)), H2 (hp.objs.size + 1) = some (exo (hp.objs.size + 1) C (some d)) ∧ H2 d = some (exd d fs) ∧ H1 d = none ∧ Qx (.ref C) (some d) (upd (del H2 (hp.objs.size + 1)) d (.xd fs))) (fun _ _ _ => False) := by
    refine ⟨_, vs, rfl, hn, upd_same, fun d H' hd hne ha hd' hk => ⟨rfl, d, Fv vs, ha, hd', ?_, ?_⟩⟩
    · rw [upd_ne hne] at hd
      exact hd
    · rw [upd_ne hne] at hd
      refine q1 _ d _ hn1 hd hne upd_same (fun b h1 h2 => ?_) ?_
      · rw [upd_ne h2, del_ne h1, hk b h1 h2, upd_ne h1]
      · rw [upd_ne (Ne.symm hne)]
        exact del_same
  have kk : ∀ b o, hp.get? b = some o → ((hp.push (PySem.W.kdv_tup us)).push (PySem.HandSPX.excO C hp.objs.size)).get? b = some o := fun b o e => Heap.get?_push_of_some _ (Heap.get?_push_of_some _ e)
  have hget : ((hp.push (PySem.W.kdv_tup us)).push (PySem.HandSPX.excO C hp.objs.size)).get? (hp.objs.size + 1) = some (PySem.HandSPX.excO C hp.objs.size) := by heap_get
  have I2 : Inv X pins σ (upd H1 (hp.objs.size + 1) (exo (hp.objs.size + 1) C none)) ⟨(hp.push (PySem.W.kdv_tup us)).push (PySem.HandSPX.excO C hp.objs.size), g, dr, tk, os⟩ :=
    I1.laid (t' := tk) (a := hp.objs.size + 1) (o := exo (hp.objs.size + 1) C none) (h' := (hp.push (PySem.W.kdv_tup us)).push (PySem.HandSPX.excO C hp.objs.size)) kk hsz (exo_ok hget)
  have r2 : Vals (V.ref (hp.objs.size + 1) :: vs) (Value.ref (hp.objs.size + 1) :: us) := .cons rfl r1
  have hl : (Value.ref (hp.objs.size + 1) :: us).length = ps.length := by
    have e := r2.length
    rw [F1.len _ _ _ _ hq] at e
    exact e.symm
  have hus : us.length ≤ sizeLine := by
    rw [← Paired.length r1, sizeLine_eq]
    omega
  have bb := hb ⟨(hp.push (PySem.W.kdv_tup us)).push (PySem.HandSPX.excO C hp.objs.size), g, dr, tk, os⟩ (Value.ref (hp.objs.size + 1) :: us) I2.kIn (by rw [List.append_nil]; exact hl)
  rw [List.append_nil] at bb
  refine wpAny_call (PySem.HandSPX.call_own F.excBase_ValueError (fun Y => PySem.HandSPX.refsVE_contains Y bm hbm) (I1.kIn _ _ hC) (PySem.W.looks_findIn I1.kIn iC) (fun self => PySem.W.bind_fn I1.kIn self tI) hus
    (codeAny_mono (F1.run _ X.stack _ _ ⟨Value.ref (hp.objs.size + 1) :: us, []⟩ (Value.ref (hp.objs.size + 1) :: us) _ _ (fun _ _ _ => False) (hr.make C us []) (I2.env0.make C us []) bb r2 hq) fun r s' hq' => ?_))
  cases r with
  | error er =>
    obtain ⟨_, _, _, _, _, _, _, _, _, _, _, _, z⟩ := hq'
    exact z.elim
  | ok fl =>
    cases fl with
    | ret u =>
      obtain ⟨v, H2, os2, bare2, un2, hok2, rv, ev, d, fs, ea, ed, hd1, q2⟩ := hq'
      subst ev
      obtain ⟨h2, g2, d2, t2, os'⟩ := s'
      exact ⟨rv, mk_end (raises_own T.exC T.tyC) I1 hsz kk un2 hok2 os2 bare2 ea ed hd1 q2⟩
    | next => exact False.elim hq'
    | brk => exact False.elim hq'
    | cont => exact False.elim hq'
theorem mk_fin {σ : L2.St} {G H G1 H1 : Hp} {Q : PX → Prop} {Qx : XK} {xs : List PV} {vs : List V} (hF : FldR X.K Fv Fp) (s1 : Step G H G1 H1) (r1 : Reps X.K G1 xs vs) (q : Q ⟨C, Fp xs⟩) (kk : ∀ p d G' H', Step G H G' H' → RepX X.K G' H' p d → Q p → Qx (.ref p.C) (some d) H')
    (a d : Addr) (H' : Hp) (ha : H1 a = none) (hd : H1 d = none) (hne : d ≠ a) (e : H' d = some (.xd (Fv vs))) (k : ∀ b, b ≠ a → b ≠ d → H' b = H1 b) : Qx (.ref C) (some d) H' := by
  have hh : Same H1 H' := fun b o z => by
    rw [k b (ne_of_none z ha) (ne_of_none z hd)]
    exact z
  exact kk ⟨C, Fp xs⟩ d G1 H' (s1.trans ⟨hh, Same.refl _, fun b o z => hh _ _ (s1.gh _ _ z), fun b o z n => by rw [z] at n; cases n⟩) ⟨Fv vs, e, hF G1 xs vs r1⟩ q
theorem pmk_x (T : OexC X.K C) (iC : PySem.W.findIn X.K (.ref C) "__init__" = some (some (.ref fI))) (tI : PySem.W.typeIn X.K (.ref fI) = some (.type "function"))
    (F1 : FnOk X.prog X.w X.K X.mg X.base (L2.CX X.prog X.w) k fI fd ps (spX C n Fv)) (hF : FldR X.K Fv Fp) (hr : Room (k + 1) X.A) (hb : Binds X.K fd ps []) (hn : n ≤ 1000) (hm : X.mg x = some (.ref C)) (ha : JA X W (e :: es) qa) (hg : Gl X x := by rfl)
    (hdb : (x == ("__debug__" : Str)) = false := by decide) (he : starEach (e :: es) X.env = (false, eval e X.env) :: starEach es X.env := by rfl) (hpl : (backTo pos (starEach es X.env)).any (·.1) = false := by rfl) :
    PMk X (.Call (.Name x p) (e :: es) [] pos) (tXJ X.K W C n Fp qa) := by
  intro pins s σ H Qx I ⟨Gb, Hb, ρ, G, y, Q, R, E, q, kk⟩
  refine wpAny_Call_Name_kw (ld_glob I hg hm ?_ hdb)
  refine PySem.W.callWith_K (h₀ := X.base) I.ok.mod.kin T.kC (thn (ha.run pos pins s σ H (fun vs H1 => ∃ (G1 : Hp) (xs : List PV), Step G H G1 H1 ∧ Reps X.K G1 xs vs ∧ xs.length = n ∧ Q ⟨C, Fp xs⟩) I ⟨Gb, Hb, ρ, G, y, _, R, E, q, fun xs vs G1 H1 s1 r1 q1 => ⟨G1, xs, s1, r1, q1.1, q1.2⟩⟩) fun us s1 ⟨vs, H1, I1, r1, G1, xs, st, rr, hl, q1⟩ => ⟨I1.kIn, ?_⟩) he hpl
  have hv : vs.length = n := rr.length.symm.trans hl
  exact mk_call T iC tI F1 hr hb I1 r1 hv (by omega) fun a d H' ha hd hne e k _ => mk_fin (X := X) (σ := σ) hF st rr q1 kk a d H' ha hd hne e k
theorem pmk_x0 (T : OexC X.K C) (iC : PySem.W.findIn X.K (.ref C) "__init__" = some (some (.ref fI))) (tI : PySem.W.typeIn X.K (.ref fI) = some (.type "function"))
    (F1 : FnOk X.prog X.w X.K X.mg X.base (L2.CX X.prog X.w) k fI fd ps (spX C 0 Fv)) (hF : FldR X.K Fv Fp) (hr : Room (k + 1) X.A) (hb : Binds X.K fd ps []) (hm : X.mg x = some (.ref C)) (hg : Gl X x := by rfl) (hdb : (x == ("__debug__" : Str)) = false := by decide) :
    PMk X (.Call (.Name x p) [] [] pos) (tXJ X.K W C 0 Fp qNil) := by
  intro pins s σ H Qx I ⟨Gb, Hb, ρ, G, y, Q, R, E, q, kk⟩
  refine wpAny_Call_Name_kw (ld_glob I hg hm ?_ hdb)
  refine PySem.W.callWith_K0 I.kIn T.kC ?_
  exact mk_call T iC tI F1 hr hb I (vs := []) .nil rfl (by decide) fun a d H' ha hd hne e k _ => mk_fin (X := X) (σ := σ) hF (.refl R.gh) .nil q.2 kk a d H' ha hd hne e k
def qRaise (C : Addr) (n : Nat) (Fp : List PV → List (Str × PV)) (qa : QA) : QS := fun D ρ => qa ρ (D.ex ρ) fun xs => xs.length = n ∧ D.ex ρ ⟨C, Fp xs⟩
theorem js_raise {ee : Expr} (hc : X.calm = true) (tk : Takes X W) (h : PMk X ee (tXJ X.K W C n Fp qa)) : JS X W (.Raise (some ee) none pos) (qRaise C n Fp qa) := by
  refine PS.imp (ps_raise hc tk h) fun Dh σ H ⟨Gb, Hb, ρ, G, D, R, M, q⟩ => ?_
  exact ⟨Gb, Hb, ρ, G, D.ex ρ, D.ex ρ, R, M.exok R, q, fun p d G' H' s r hp => M.ex ρ σ G' H' p d (R.mono s) r hp⟩
end

theorem one_c {α : Type} {C c : Addr} {b0 b : α} (h : (if C = c then some b0 else none) = some b) : C = c ∧ b0 = b := by
  split at h
  · exact ⟨‹_›, Option.some.inj h⟩
  · cases h
/-! ### try: .. except X as e: .. -/
def tryD (r : Addr → Option Bool) (i : Nat) (qs : Addr → Value → Option Addr → QS) (D : QD) : QD := { D with ex := fun ρ' p => ∃ b, r p.C = some b ∧
  (b = true → ∀ a d, qs a (.ref p.C) (some d) { nx := fun ρ2 => D.nx (ρ2.set i none), rt := D.rt, bk := fun ρ2 => D.bk (ρ2.set i none), ct := fun ρ2 => D.ct (ρ2.set i none), ex := fun _ _ => False } (ρ'.set i (some (.exc a d p.C p.fs)))) ∧ (b = false → D.ex ρ' p) }
def qTry (r : Addr → Option Bool) (i : Nat) (qb : QS) (qs : Addr → Value → Option Addr → QS) : QS := fun D ρ => qb (tryD r i qs D) ρ
theorem RelS.setExc {K : PySem.W.Frag} {Gb Hb G H : Hp} {ρ : PSt} {σ : L2.St} (r : RelS K Gb Hb ρ σ G H) (i : Nat) {a d C : Addr} {fs : List (Str × PV)} (h : RepX K G H ⟨C, fs⟩ d) : RelS K Gb Hb (ρ.set i (some (.exc a d C fs))) (σ.set i (some (.ref a))) G H where
  step := r.step
  len := by simp [r.len]
  val := fun j y e => by
    rcases set_get e with ⟨rfl, e, hl⟩ | ⟨n, e⟩
    · cases e
    · obtain ⟨u, h1, h2⟩ := r.val j y e
      exact ⟨u, by rw [List.getElem?_set_ne n]; exact h1, h2⟩
  own := fun j xs e => by
    rcases set_get e with ⟨rfl, e, hl⟩ | ⟨n, e⟩
    · cases e
    · obtain ⟨a, vs, h1, h2⟩ := r.own j xs e
      exact ⟨a, vs, by rw [List.getElem?_set_ne n]; exact h1, h2⟩
  ins := fun j a C fs e => by
    rcases set_get e with ⟨rfl, e, hl⟩ | ⟨n, e⟩
    · cases e
    · obtain ⟨dx, gs, h1, h2⟩ := r.ins j a C fs e
      exact ⟨dx, gs, by rw [List.getElem?_set_ne n]; exact h1, h2⟩
  exc := fun j a d C fs e => by
    rcases set_get e with ⟨rfl, e, hl⟩ | ⟨n, e⟩
    · cases e
      exact ⟨List.getElem?_set_self (by rw [← r.len]; exact hl), h⟩
    · obtain ⟨h1, h2⟩ := r.exc j a d C fs e
      exact ⟨by rw [List.getElem?_set_ne n]; exact h1, h2⟩
  one := fun j k a C b D fs gs e1 e2 => by
    rcases set_get e1 with ⟨rfl, e, hl⟩ | ⟨n1, e1⟩
    · cases e
    · rcases set_get e2 with ⟨rfl, e, hl⟩ | ⟨n2, e2⟩
      · cases e
      · exact r.one j k _ C _ D fs gs e1 e2
  sep := fun j k xs ys a e1 e2 s1 s2 => by
    rcases set_get e1 with ⟨rfl, e, hl⟩ | ⟨n1, e1⟩
    · cases e
    · rcases set_get e2 with ⟨rfl, e, hl⟩ | ⟨n2, e2⟩
      · cases e
      · rw [List.getElem?_set_ne n1] at s1
        rw [List.getElem?_set_ne n2] at s2
        exact r.sep j k xs ys a e1 e2 s1 s2
section
variable {X : Cx} {W : WX} {x n : Str} {c : Value} {i : Nat} {body suite : List Stmt} {b₀ : Stmt} {np pos pos' : Pos} {qb : QS} {qs : Addr → Value → Option Addr → QS}
theorem js_try (i : Nat) {r : Addr → Option Bool} (hN : X.N.Nodup) (hc : Names X x c) (he : ∀ C b, r C = some b → PySem.W.exmOne X.K (.ref C) c = some b) (tk : Takes X W)
    (hb : ∀ (W' : WX) (pn : List (Addr × Obj)) (xe : Value → Shared → Prop), Takes (X.tr pn xe) W' → PassesOwn (model X.prog X.w) X.A X.env xe → JSs (X.tr pn xe) W' body qb)
    (hsu : ∀ (a : Addr) (oe : Obj) (cls : Value) (d : Option Addr) (pn : List (Addr × Obj)), Zc cls d oe → (∃ vs, oe.data = .fields vs) → JSs (X.suite a ((a, oe) :: pn)) (fun _ _ _ _ => False) (b₀ :: suite) (qs a cls d))
    (hs : X.stack = X.env :: X.outer := by rfl) (hf : X.env.frame = some X.env.locals := by rfl) (hi : X.N[i]? = some n := by rfl) (hln : X.env.kindOf n = some .local := by rfl) :
    JS X W (.Try body [.ExceptHandler (some (.Name x np)) (some n) (b₀ :: suite) pos'] [] [] pos) (qTry r i qb qs) := by
  refine PS.imp (ps_try_as (tb := fun W' => tSJ X.K W' qb) (ts := fun a cls d => tSJ X.K (fun _ _ _ _ => False) (qs a cls d)) (Wout := W) hs hf hN hi hln hc tk hb hsu) fun Dh σ H ⟨Gb, Hb, ρ, G, D, R, M, q⟩ => ?_
  refine ⟨Gb, Hb, ρ, G, tryD r i qs D, R, ⟨M.nx, M.rt, M.bk, M.ct, fun ρ2 σ2 G2 H2 p d R2 r2 ⟨b, e1, h1, h2⟩ => ⟨b, he _ _ e1, fun hb a ha => ?_, fun hb => M.ex ρ2 σ2 G2 H2 p d R2 r2 (h2 hb)⟩⟩, q⟩
  refine ⟨Gb, Hb, _, G2, _, R2.setExc i r2, ?_, h1 hb a d⟩
  exact ⟨fun ρ3 σ3 G3 H3 R3 q3 => M.nx _ _ G3 H3 (R3.drop i none) q3, M.rt, fun ρ3 σ3 G3 H3 R3 q3 => M.bk _ _ G3 H3 (R3.drop i none) q3, fun ρ3 σ3 G3 H3 R3 q3 => M.ct _ _ G3 H3 (R3.drop i none) q3, fun _ _ _ _ _ _ _ _ z => z.elim⟩
end

/-! ### the exception in the suite: its fields, isinstance -/
def qXf (a : Addr) (cls : Value) (d : Option Addr) (i : Nat) (ok : Addr → Bool) (f : Str) : QE := fun ρ _ Q => match ρ[i]? with
  | some (some (.exc a' d' C fs)) => a' = a ∧ cls = .ref C ∧ d = some d' ∧ ok C = true ∧ ∃ u, fs.lookup f = some u ∧ Q u
  | _ => False
def qXi (a : Addr) (cls : Value) (d : Option Addr) (i : Nat) (r : Addr → Option Bool) : QE := fun ρ _ Q => match ρ[i]? with
  | some (some (.exc a' d' C fs)) => a' = a ∧ cls = .ref C ∧ d = some d' ∧ (match r C with
    | some b => Q (.bl b)
    | none => False)
  | _ => False
section
variable {X : Cx} {W : WX} {a : Addr} {oe : Obj} {cls : Value} {d : Option Addr} {pn : List (Addr × Obj)} {x f cn : Str} {p p2 p3 pos : Pos}
/-- CF: the classes whose field f is read off the own dict -/
theorem je_xf (i : Nat) {ok : Addr → Bool} (T : ∀ C, ok C = true → XfC X.K C ∧ PySem.W.findIn X.K (.ref C) f = some none) (hz : Zc cls d oe) (hf : ∃ vs, oe.data = .fields vs) (hv : PE (X.suite a ((a, oe) :: pn)) (.Name x p) (tVar i) := by exact pv _)
    (hb : attributeBase (.Name x p) f (X.suite a ((a, oe) :: pn)).env (eval (.Name x p) (X.suite a ((a, oe) :: pn)).env) = eval (.Name x p) (X.suite a ((a, oe) :: pn)).env := by rfl) : JE (X.suite a ((a, oe) :: pn)) W (.Attribute (.Name x p) f pos) (qXf a cls d i ok f) := by
  by_cases hC : ∃ C, cls = .ref C ∧ ok C = true
  · obtain ⟨C, rfl, hok⟩ := hC
    obtain ⟨T1, T2⟩ := T C hok
    refine PE.imp (pe_xf T1 T2 hz hf hv hb) fun σ H Qh ⟨Gb, Hb, ρ, G, y, Q, R, E, q, k⟩ => ?_
    unfold qXf at q
    split at q
    · rename_i a' d' C' fs ex
      obtain ⟨rfl, e1, e2, _, u, hu, q⟩ := q
      cases e1
      obtain ⟨h1, gs, h2, h3⟩ := R.exc i _ _ _ _ ex
      obtain ⟨v, h4, h5⟩ := h3.look hu
      exact ⟨.ref a', h1, rfl, rfl, d', gs, v, e2, h2, h4, k _ _ G H (.refl R.gh) h5 q⟩
    · exact q.elim
  · refine ⟨fun pins s σ H Qh I ⟨Gb, Hb, ρ, G, y, Q, R, E, q, k⟩ => ?_⟩
    unfold qXf at q
    split at q
    · exact absurd ⟨_, q.2.1, q.2.2.2.1⟩ hC
    · exact q.elim
def rIsD (K : PySem.W.Frag) (a : Addr) (cls : Value) (d : Option Addr) (cv : Value) : List V → Hp → VK → Prop := fun xs H Q => ∃ (D dd : Addr) (gs : List (Str × V)) (c : V) (b : Bool), xs = [.ref a, c] ∧ cls = .ref D ∧ d = some dd ∧ H dd = some (.xd gs) ∧ ClsV c cv ∧ ExcC K D ∧ PySem.W.kitOne K (.ref D) cv = some b ∧ Q (.bl b) H
theorem call_isD {cv : Value} (hz : Zc cls d oe) (hf : ∃ vs, oe.data = .fields vs) : CallR (X.suite a ((a, oe) :: pn)) (.builtin "isinstance") (rIsD X.K a cls d cv) := by
  intro pins s σ H xs us Q I r h
  obtain ⟨D, dd, gs, c, b, rfl, rfl, rfl, hd, hcv, C, e, q⟩ := h
  obtain ⟨u1, u2, rfl, r1, r2⟩ := vals2 r
  cases (show u1 = Value.ref a from r1)
  have e2 := hcv.eq r2
  subst e2
  obtain ⟨hget, _⟩ := I.pin (a, oe) (List.mem_append.mpr (.inl List.mem_cons_self))
  obtain ⟨vs, hv⟩ := hf
  have hx : ObjOk X.prog X.w H s.heap dd (.xd gs) := I.hok dd _ hd
  obtain ⟨mA, hns, hr⟩ := hx
  obtain ⟨od, ho, hl⟩ := lookIn_ns hns
  have J : PySem.W.InstAt s.heap a oe D (some od) := ⟨hget, hz.1, by unfold PySem.W.notCls; rw [hv] <;> rfl, by rw [hz.2]; exact ho⟩
  exact PySem.W.kia_one (PySem.W.kitx_excD C.hg C.hk C.hs C.hd C.ha C.hn C.ht C.hm) I.kIn J e (fun z => nomatch z) fun tk => ⟨.bl b, H, I.kept (t' := tk) fun _ _ z => z, rfl, q⟩
def KitX' (K : PySem.W.Frag) (cv : Value) (r : Addr → Option Bool) : Prop := ∀ C b, r C = some b → ExcC K C ∧ PySem.W.kitOne K (.ref C) cv = some b
theorem je_xi0 (i : Nat) {ce : Expr} {c : V} {cv : Value} {r : Addr → Option Bool} (hk : KitX' X.K cv r) (hm : X.mg "isinstance" = none) (hz : Zc cls d oe) (hf : ∃ vs, oe.data = .fields vs) (hc : PE (X.suite a ((a, oe) :: pn)) ce (tC c)) (hcv : ClsV c cv) (hv : PE (X.suite a ((a, oe) :: pn)) (.Name x p) (tVar i)) (hg : Gl (X.suite a ((a, oe) :: pn)) "isinstance")
    (hs : starEach [.Name x p, ce] (X.suite a ((a, oe) :: pn)).env = (false, eval (.Name x p) (X.suite a ((a, oe) :: pn)).env) :: starEach [ce] (X.suite a ((a, oe) :: pn)).env) (hs2 : starEach [ce] (X.suite a ((a, oe) :: pn)).env = (false, eval ce (X.suite a ((a, oe) :: pn)).env) :: starEach [] (X.suite a ((a, oe) :: pn)).env) (hpl : (backTo pos (starEach [ce] (X.suite a ((a, oe) :: pn)).env)).any (·.1) = false) :
    JE (X.suite a ((a, oe) :: pn)) W (.Call (.Name "isinstance" p3) [.Name x p, ce] [] pos) (qXi a cls d i r) := by
  refine PE.imp (pe_callB (call_isD (X := X) (cv := cv) hz hf) hg hm (by decide +kernel) (pa_cons hv (pa_cons hc pa_nil hs2) hs) (by decide) (by decide) hs hpl) fun σ H Qh ⟨Gb, Hb, ρ, G, y, Q, R, E, q, k⟩ => ?_
  unfold qXi at q
  split at q
  · rename_i a' d' C' fs ex
    obtain ⟨rfl, e1, e2, q⟩ := q
    obtain ⟨h1, gs, h2, h3⟩ := R.exc i _ _ _ _ ex
    split at q
    · rename_i b eb
      obtain ⟨k1, k2⟩ := hk _ _ eb
      exact ⟨.ref a', h1, C', d', gs, c, b, rfl, e1, e2, h2, hcv, k1, k2, k _ _ G H (.refl R.gh) (.bl b) q⟩
    · exact q.elim
  · exact q.elim
theorem je_xiC (i : Nat) {C : Addr} {r : Addr → Option Bool} (hk : KitX' X.K (.ref C) r) (hm : X.mg "isinstance" = none) (hz : Zc cls d oe) (hf : ∃ vs, oe.data = .fields vs) (hc : X.mg cn = some (.ref C)) (hv : PE (X.suite a ((a, oe) :: pn)) (.Name x p) (tVar i) := by exact pv _) (hg : Gl (X.suite a ((a, oe) :: pn)) "isinstance" := by rfl) (hg2 : Gl (X.suite a ((a, oe) :: pn)) cn := by rfl) (hd : (cn == ("__debug__" : Str)) = false := by decide)
    (hs : starEach [.Name x p, .Name cn p2] (X.suite a ((a, oe) :: pn)).env = (false, eval (.Name x p) (X.suite a ((a, oe) :: pn)).env) :: starEach [.Name cn p2] (X.suite a ((a, oe) :: pn)).env := by rfl) (hs2 : starEach [.Name cn p2] (X.suite a ((a, oe) :: pn)).env = (false, eval (.Name cn p2) (X.suite a ((a, oe) :: pn)).env) :: starEach [] (X.suite a ((a, oe) :: pn)).env := by rfl) (hpl : (backTo pos (starEach [.Name cn p2] (X.suite a ((a, oe) :: pn)).env)).any (·.1) = false := by rfl) :
    JE (X.suite a ((a, oe) :: pn)) W (.Call (.Name "isinstance" p3) [.Name x p, .Name cn p2] [] pos) (qXi a cls d i r) := je_xi0 (X := X) (c := .ref C) i hk hm hz hf (pe_glob hg2 hc rfl hd) (.own C) hv hg hs hs2 hpl
theorem je_xiT (i : Nat) {n : String} {r : Addr → Option Bool} (hk : KitX' X.K (.type n) r) (hm : X.mg "isinstance" = none) (hz : Zc cls d oe) (hf : ∃ vs, oe.data = .fields vs) (hc : X.mg cn = none) (hv : PE (X.suite a ((a, oe) :: pn)) (.Name x p) (tVar i) := by exact pv _) (hb : bootBuiltins cn = some (.type n) := by decide +kernel) (hg : Gl (X.suite a ((a, oe) :: pn)) "isinstance" := by rfl) (hg2 : Gl (X.suite a ((a, oe) :: pn)) cn := by rfl) (hn : cn ≠ "__name__" := by decide) (hd : (cn == ("__debug__" : Str)) = false := by decide)
    (hs : starEach [.Name x p, .Name cn p2] (X.suite a ((a, oe) :: pn)).env = (false, eval (.Name x p) (X.suite a ((a, oe) :: pn)).env) :: starEach [.Name cn p2] (X.suite a ((a, oe) :: pn)).env := by rfl) (hs2 : starEach [.Name cn p2] (X.suite a ((a, oe) :: pn)).env = (false, eval (.Name cn p2) (X.suite a ((a, oe) :: pn)).env) :: starEach [] (X.suite a ((a, oe) :: pn)).env := by rfl) (hpl : (backTo pos (starEach [.Name cn p2] (X.suite a ((a, oe) :: pn)).env)).any (·.1) = false := by rfl) :
    JE (X.suite a ((a, oe) :: pn)) W (.Call (.Name "isinstance" p3) [.Name x p, .Name cn p2] [] pos) (qXi a cls d i r) := je_xi0 (X := X) (c := .ty n) i hk hm hz hf (pe_bltn hg2 hc hb rfl hn hd) (.ty n) hv hg hs hs2 hpl
end
end QL

set_option maxHeartbeats 2000000
namespace QL
open PySem PySem.Spec PyProof.Rows L2
mutual
/-- as nested data -/
def toD : PV → Option PyData
  | .non => some .none
  | .bl b => some (.bool b)
  | .int i => some (.int i)
  | .str x => some (.str x)
  | .lst xs => (toDs xs).map .list
  | .tup xs => (toDs xs).map .tuple
  | _ => none
def toDs : List PV → Option (List PyData)
  | [] => some []
  | x :: xs => match toD x, toDs xs with
    | some d, some ds => some (d :: ds)
    | _, _ => none
end
section
variable {K : PySem.W.Frag} {G H : Hp}
mutual
theorem dp_of (s : Same G H) : ∀ {x : PV} {v : V} {d : PyData}, toD x = some d → Rep K G x v → Dp K H v d
  | .non, _, _, e, .non => by
    unfold toD at e
    cases e
    exact .non
  | .bl b, _, _, e, .bl _ => by
    unfold toD at e
    cases e
    exact .bl b
  | .int i, _, _, e, .int _ => by
    unfold toD at e
    cases e
    exact .int i
  | .str x, _, _, e, .str _ => by
    unfold toD at e
    cases e
    exact .str x
  | .lst xs, _, _, e, .lst h r => by
    unfold toD at e
    cases q : toDs xs with
    | none => rw [q] at e; cases e
    | some ds =>
      rw [q] at e
      cases e
      exact .lst (s.seq h) (dps_of s q r)
  | .tup xs, _, _, e, .tup h r => by
    unfold toD at e
    cases q : toDs xs with
    | none => rw [q] at e; cases e
    | some ds =>
      rw [q] at e
      cases e
      exact .tup (Same.sqT s h) (dps_of s q r)
  | .ty _, _, _, e, _ => by unfold toD at e; cases e
  | .adr _, _, _, e, _ => by unfold toD at e; cases e
  | .obj _ _, _, _, e, _ => by unfold toD at e; cases e
theorem dps_of (s : Same G H) : ∀ {xs : List PV} {vs : List V} {ds : List PyData}, toDs xs = some ds → Reps K G xs vs → DpAll K H vs ds
  | [], _, _, e, .nil => by
    unfold toDs at e
    cases e
    exact .nil
  | x :: xs, _, _, e, .cons h r => by
    unfold toDs at e
    split at e
    · rename_i d ds e1 e2
      cases e
      exact .cons (dp_of s e1 h) (dps_of s e2 r)
    · cases e
end
end
def qEqD (neg : Bool) : Q2 := fun x z Q => ∃ d e, toD x = some d ∧ toD z = some e ∧ SeqAt.shaped d = true ∧ SeqAt.shaped e = true ∧ Q (.bl (neg ^^ PyData.eqv d e))
section
variable {X : Cx} {W : WX} {a b : Expr} {qa qb : QE} {pos : Pos}
theorem snd_eqD {K : PySem.W.Frag} : Snd2 K (rEqD K) (qEqD false) := by
  intro x z v w G H Q Qh hs rx rz ⟨d, e, h1, h2, h3, h4, q⟩ k
  exact ⟨d, e, dp_of hs h1 rx, dp_of hs h2 rz, h3, h4, k _ _ G H (.refl hs) (.bl _) (by simpa using q)⟩
theorem snd_neD {K : PySem.W.Frag} : Snd2 K (rNeD K) (qEqD true) := by
  intro x z v w G H Q Qh hs rx rz ⟨d, e, h1, h2, h3, h4, q⟩ k
  exact ⟨d, e, dp_of hs h1 rx, dp_of hs h2 rz, h3, h4, k _ _ G H (.refl hs) (.bl _) (by simpa using q)⟩
theorem je_eqD {k : Nat} (hr : Room k X.A) (ha : JE X W a qa) (hb : JE X W b qb) : JE X W (.Compare a [.Eq] [b] pos) (qOp (qEqD false) qa qb) := je_cmp (op_eqD hr.units) snd_eqD ha hb (nomark _)
theorem je_neD {k : Nat} (hr : Room k X.A) (ha : JE X W a qa) (hb : JE X W b qb) : JE X W (.Compare a [.NotEq] [b] pos) (qOp (qEqD true) qa qb) := je_cmp (op_neD hr.units) snd_neD ha hb (nomark _)
theorem jt_eqD {k : Nat} (hr : Room k X.A) (ha : JE X W a qa) (hb : JE X W b qb) : JT X W (.Compare a [.Eq] [b] pos) (qB (qOp (qEqD false) qa qb)) := jt_cmp (op_eqD hr.units) snd_eqD ha hb (nomark _)
theorem jt_neD {k : Nat} (hr : Room k X.A) (ha : JE X W a qa) (hb : JE X W b qb) : JT X W (.Compare a [.NotEq] [b] pos) (qB (qOp (qEqD true) qa qb)) := jt_cmp (op_neD hr.units) snd_neD ha hb (nomark _)
end
/-! ### one's own list: read -/
def qIxO (i : Nat) (qk : QE) : QE := fun ρ y Q => match ρ[i]? with
  | some (some (.own xs)) => qk ρ y fun k => match k with
    | .int k => ∃ u, atI xs k = some u ∧ Q u
    | _ => False
  | _ => False
def qLenO (i : Nat) : QE := fun ρ _ Q => match ρ[i]? with
  | some (some (.own xs)) => Q (.int xs.length)
  | _ => False
section
variable {X : Cx} {W : WX} {b e : Expr} {qb : QE} {x : Str} {p p2 pos : Pos}
theorem je_ixO (i : Nat) (hb : JE X W b qb) (hv : PE X (.Name x p) (tVar i) := by exact pv _) (hs : PlainIx b := by exact fun _ _ => rfl) : JE X W (.Subscript (.Name x p) b pos) (qIxO i qb) := by
  refine PE.imp (pe_ix ix_list hv hb hs) fun σ H Qh ⟨Gb, Hb, ρ, G, y, Q, R, E, q, k⟩ => ?_
  unfold qIxO at q
  split at q
  · rename_i xs ex
    obtain ⟨a, vs, e1, e2, e3, e4, e5⟩ := R.own i xs ex
    refine ⟨.ref a, e1, Gb, Hb, ρ, G, y, _, R, E, q, fun z w G1 H1 s1 r1 q1 => ?_⟩
    split at q1
    · obtain ⟨u, hu, q1⟩ := q1
      obtain ⟨v', h1, h2⟩ := atI_rep (e3.mono s1.gg) hu
      exact ⟨a, vs, _, v', rfl, rep_int r1, SqL.of (s1.hh _ _ e2), h1, k _ _ G1 H1 s1 h2 q1⟩
    · exact q1.elim
  · exact q.elim
theorem je_lenO (i : Nat) (hm : X.mg "len" = none) (hv : PE X (.Name x p) (tVar i) := by exact pv _) (hg : Gl X "len" := by rfl) (he : starEach [.Name x p] X.env = (false, eval (.Name x p) X.env) :: starEach [] X.env := by rfl) (hpl : (backTo pos (starEach [] X.env)).any (·.1) = false := by rfl) :
    JE X W (.Call (.Name "len" p2) [.Name x p] [] pos) (qLenO i) := by
  refine PE.imp (pe_callB call_len_seq hg hm (by decide +kernel) (pa_cons hv pa_nil he) (by decide) (by decide) he hpl) fun σ H Qh ⟨Gb, Hb, ρ, G, y, Q, R, E, q, k⟩ => ?_
  unfold qLenO at q
  split at q
  · rename_i xs ex
    obtain ⟨a, vs, e1, e2, e3, e4, e5⟩ := R.own i xs ex
    refine ⟨.ref a, e1, a, vs, rfl, .inl (SqL.of e2), ?_⟩
    rw [show (vs.length : Int) = (xs.length : Int) from congrArg _ e3.length.symm]
    exact k _ _ G H (.refl R.gh) (.int _) q
  · exact q.elim
end

/-! ### range(a, b, c) -/
def rangeC (lo c : Int) (n : Nat) : List PV := (List.range n).map fun (k : Nat) => PV.int (lo + (k : Int) * c)
def qForR3 (i : Nat) (qa : QA) (q : QS) : QS := fun D ρ => qa ρ (D.ex ρ) fun xs => match xs with
  | [.int lo, .int hi, .int c] => ∃ n, RgC lo hi c n ∧ qLoop i q D (rangeC lo c n) ρ
  | _ => False
section
variable {X : Cx} {W : WX} {a : List Stmt} {q : QS} {qa : QA} {pos : Pos}
theorem rangeC_get {lo c : Int} {n k : Nat} (h : k < n) : (rangeC lo c n)[k]? = some (.int (lo + (k : Int) * c)) := by
  unfold rangeC
  rw [List.getElem?_map, List.getElem?_range h]
  rfl
theorem rangeC_len {lo c : Int} {n : Nat} : (rangeC lo c n).length = n := by
  unfold rangeC
  rw [List.length_map, List.length_range]
theorem js_forR3 (i : Nat) {x : Str} {ae be ce : Expr} {npos p pos2 : Pos} (hp : PassesOwn (model X.prog X.w) X.A X.env X.xe) (hc : X.calm = true) (hN : X.N.Nodup) (hm : X.mg "range" = none) (h : JA X W [ae, be, ce] qa) (hb : JSs X W a q) (hg : Gl X "range" := by rfl) (hi : X.N[i]? = some x := by rfl)
    (hx : Loc X.env.scope x := by first | exact Or.inl rfl | exact Or.inr rfl) (hf : X.fn x = true ∨ X.env.scope.names.lookup x = some .local := by first | exact .inl rfl | exact .inr rfl)
    (hs : ∀ x, foldedSetIterable (.Call (.Name "range" p) [ae, be, ce] [] pos2) X.env x = pure x := by intro _; rfl) (hs2 : starEach [ae, be, ce] X.env = (false, eval ae X.env) :: starEach [be, ce] X.env := by rfl) (hpl : (backTo pos2 (starEach [be, ce] X.env)).any (·.1) = false := by rfl) :
    JS X W (.For (.Name x npos) (.Call (.Name "range" p) [ae, be, ce] [] pos2) a [] pos) (qForR3 i qa q) := by
  refine PS.imp (ps_for hp hc (pi_range3 hg hm h hs2 hpl) (pg_name hN hi hx hf) hb hs) fun Dh σ H ⟨Gb, Hb, ρ, G, D, R, M, q'⟩ => ?_
  refine ⟨Gb, Hb, ρ, G, D.ex ρ, _, R, M.exok R, q', fun xs vs G1 H1 s1 r1 q1 => ?_⟩
  split at q1
  · rename_i lo hi c
    obtain ⟨n, hn, q1⟩ := q1
    cases r1 with
    | cons r1 rr =>
      cases rr with
      | cons r2 rr =>
        cases rr with
        | cons r3 rr =>
          cases r1; cases r2; cases r3; cases rr
          refine ⟨lo, hi, c, n, rfl, hn, for_rangeC (lo := lo) (c := c) (n := n) (fun k σ' H' => ∃ ρ' G', RelS X.K Gb Hb ρ' σ' G' H' ∧ qLoop i q D ((rangeC lo c n).drop k) ρ') ⟨ρ, G1, R.mono s1, q1⟩ ?_ ?_⟩
          · rintro k σ' H' hk ⟨ρ', G', R', q2⟩
            have q3 := loop_drop (rangeC_get hk) q2
            refine ⟨Gb, Hb, _, G', { D with nx := fun ρ' => qLoop i q D ((rangeC lo c n).drop (k + 1)) ρ', ct := fun ρ' => qLoop i q D ((rangeC lo c n).drop (k + 1)) ρ', bk := D.nx }, R'.set i (.int _), ?_, q3⟩
            exact ⟨fun ρ2 σ2 G2 H2 R2 q => ⟨ρ2, G2, R2, q⟩, M.rt, M.nx, fun ρ2 σ2 G2 H2 R2 q => ⟨ρ2, G2, R2, q⟩, M.ex⟩
          · rintro σ' H' ⟨ρ', G', R', q2⟩
            rw [List.drop_of_length_le (by rw [rangeC_len]; exact Nat.le_refl _)] at q2
            exact M.nx _ _ _ _ R' q2
  · exact q1.elim
end

/-! ### defs with defaults -/
/-- a def of the text, as FunD has it -/
abbrev FunA (K : PySem.W.Frag) (x qual : Str) (st : Stmt) (dvs : List V) (f : Addr) (fd : FuncData) : Prop := FunD K x qual (defArgs st) (defBody st) (defScope st) dvs [] f fd
theorem funa_mk {K : PySem.W.Frag} {x qual : Str} {st : Stmt} {f : Addr} {oc : Value} {od an : Option Addr} {osl : Array (Option Value)} {kV doc pm cdv ct : Value} (l : K.lookup f = some ⟨oc, od, .func (PySem.W.fnOf x qual (defArgs st) (defBody st) (defScope st) .none kV doc pm an cdv ct), osl⟩)
    (c : PySem.W.codeIn K cdv qual = true) (k : PySem.W.keepIn K (.ref f) = true) : FunA K x qual st [] f (PySem.W.fnOf x qual (defArgs st) (defBody st) (defScope st) .none kV doc pm an cdv ct) :=
  ⟨⟨oc, od, .none, kV, doc, pm, an, cdv, ct, osl, rfl, l, c, .inl ⟨rfl, rfl⟩, .inl rfl⟩, k⟩
theorem funa_mk1 {K : PySem.W.Frag} {x qual : Str} {st : Stmt} {f T : Addr} {oc : Value} {od an : Option Addr} {osl : Array (Option Value)} {kV doc pm cdv ct : Value} {o : Obj} {its : List Value} {n : Nat} {dvs : List V} (l : K.lookup f = some ⟨oc, od, .func (PySem.W.fnOf x qual (defArgs st) (defBody st) (defScope st) (.ref T) kV doc pm an cdv ct), osl⟩)
    (c : PySem.W.codeIn K cdv qual = true) (k : PySem.W.keepIn K (.ref f) = true) (lT : K.lookup T = some o) (oT : o.data = .seq its.toArray n) (hne : dvs ≠ []) (r : Vals dvs its) : FunA K x qual st dvs f (PySem.W.fnOf x qual (defArgs st) (defBody st) (defScope st) (.ref T) kV doc pm an cdv ct) :=
  ⟨⟨oc, od, .ref T, kV, doc, pm, an, cdv, ct, osl, rfl, l, c, .inr ⟨hne, T, o, its, n, rfl, lT, oT, r⟩, .inl rfl⟩, k⟩
section
variable {P : Program} {w : World} {K : PySem.W.Frag} {mg : Str → Option Value} {base : Heap} {x qual : Str} {st : Stmt} {f : Addr} {fd : FuncData} {N ps : List Str} {k : Nat} {Ps : PSpec} {Is : ISpec} {C : Addr} {q : QS} {dvs : List V}
theorem binds_a0 (F : FunA K x qual st [] f fd) (h : ∀ (kV doc pm : Value) (an : Option Addr) (cdv ct : Value) (us : List Value), us.length = ps.length → bindArgs (PySem.W.fnOf x qual (defArgs st) (defBody st) (defScope st) .none kV doc pm an cdv ct) ⟨us, []⟩ = pure (ps.zip us)) : Binds K fd ps [] := by
  obtain ⟨oc, od, dV, kV, doc, pm, an, cdv, ct, osl, rfl, lk, hcd, hD, hK⟩ := F.ex
  rcases hD with ⟨_, rfl⟩ | ⟨z, _⟩
  · exact .all (h kV doc pm an cdv ct)
  · exact absurd rfl z
theorem fa_q (F : FunA K x qual st dvs f fd) (S : FnScope N ps (defScope st)) (hl : ∀ xs y Q, Ps xs y Q → xs.length = ps.length)
    (hq : ∀ (cdv : Value) (A : Around) (outer : List Env) (s : Shared) (H : Hp) (E : XK), Room k (A.deeper (envOfC qual (defScope st) s.heap.objs.size f cdv)) →
      JSs (cxOf (L2.CX P w) P w K mg base N qual (defScope st) f cdv A outer s H E) (fun cls d _ H => E cls d H) (defBody st) q)
    (hp : ∀ xs y Q, Ps xs y Q → q (endsP y Q) (startP N.length xs)) : FnOk P w K mg base (L2.CX P w) (k + 1) f fd ps (spP K Ps) := by
  refine FunD.ok F S (fun vs H Q E h => ?_) (fun cdv A outer s H vs Q E hr h => ⟨_, hq cdv A outer s H E hr, ?_⟩)
  · obtain ⟨G, xs, y, Qp, _, r, p, _⟩ := h
    rw [← r.length]
    exact hl xs y Qp p
  · obtain ⟨G, xs, y, Qp, sm, r, p, k1, k2⟩ := h
    refine ⟨G, H, startP N.length xs, G, endsP y Qp, rels_start sm r, ⟨fun ρ σ G' H' R q => k1 .non .non G' H' R.step .non q, fun x v G' H' s r q => k1 x v G' H' s r q, fun _ _ _ _ _ q => q, fun _ _ _ _ _ q => q, fun ρ σ G' H' p d R r q => k2 p d G' H' R.step r q⟩, hp xs y Qp p⟩
theorem fa_qI (F : FunA K x qual st dvs f fd) (S : FnScope N ps (defScope st)) (hl : ∀ xs y Q, Is xs y Q → xs.length + 1 = ps.length)
    (hq : ∀ (cdv : Value) (A : Around) (outer : List Env) (s : Shared) (H : Hp) (E : XK), Room k (A.deeper (envOfC qual (defScope st) s.heap.objs.size f cdv)) →
      JSs (cxOf (L2.CX P w) P w K mg base N qual (defScope st) f cdv A outer s H E) (fun cls d _ H => E cls d H) (defBody st) q)
    (hp : ∀ a xs y Q, Is xs y Q → q (endsI y a C Q) (startI N.length a C xs)) : FnOk P w K mg base (L2.CX P w) (k + 1) f fd ps (spI K C Is) := by
  refine FunD.ok F S (fun vs H Q E h => ?_) (fun cdv A outer s H vs Q E hr h => ⟨_, hq cdv A outer s H E hr, ?_⟩)
  · obtain ⟨G, a, dx, ws, xs, y, Qp, rfl, _, _, _, r, p, _⟩ := h
    show ws.length + 1 = _
    rw [← r.length]
    exact hl xs y Qp p
  · obtain ⟨G, a, dx, ws, xs, y, Qp, rfl, ha, hg, sm, r, p, k1, k2⟩ := h
    refine ⟨G, del H a, startI N.length a C xs, G, endsI y a C Qp, rels_startI sm r ha hg, ⟨fun ρ σ G' H' R q => ?_, fun _ _ _ _ _ _ q => q.elim, fun _ _ _ _ _ q => q, fun _ _ _ _ _ q => q, fun ρ σ G' H' p d R r q => k2 p d G' H' R.step r q⟩, hp a xs y Qp p⟩
    obtain ⟨fs, e, q⟩ := q
    obtain ⟨dx', gs, h1, h2, h3, h4, h5⟩ := R.ins 0 a C fs e
    exact k1 fs dx' gs G' H' R.step h4 h2 h3 q
end

/-! ### answers of isinstance and == by kinds of values -/
def inL (C : Addr) : List Addr → Bool
  | [] => false
  | D :: r => decide (C = D) || inL C r
theorem inL_mem {C : Addr} : ∀ {os : List Addr}, inL C os = true → C ∈ os
  | D :: r, h => by
    unfold inL at h
    rcases Bool.or_eq_true_iff.mp h with h | h
    · rw [of_decide_eq_true h]; exact List.mem_cons_self
    · exact List.mem_cons_of_mem _ (inL_mem h)
def isiInt (os : List Addr) : PV → Option Bool
  | .int _ => some true
  | .bl _ => some true
  | .non => some false
  | .str _ => some false
  | .lst _ => some false
  | .tup _ => some false
  | .obj C _ => if inL C os = true then some false else none
  | _ => none
def isiBool (os : List Addr) : PV → Option Bool
  | .bl _ => some true
  | .int _ => some false
  | .non => some false
  | .str _ => some false
  | .lst _ => some false
  | .tup _ => some false
  | .obj C _ => if inL C os = true then some false else none
  | _ => none
def isiStr (os : List Addr) : PV → Option Bool
  | .str _ => some true
  | .bl _ => some false
  | .int _ => some false
  | .non => some false
  | .lst _ => some false
  | .tup _ => some false
  | .obj C _ => if inL C os = true then some false else none
  | _ => none
def isiC (D : Addr) (os : List Addr) : PV → Option Bool
  | .obj C _ => if C = D then some true else if inL C os = true then some false else none
  | .str _ => some false
  | .bl _ => some false
  | .int _ => some false
  | .non => some false
  | .lst _ => some false
  | .tup _ => some false
  | _ => none
/-- instances of the classes os are none of the built-in type -/
def KitO (K : PySem.W.Frag) (cv : Value) (os : List Addr) : Prop := ∀ C ∈ os, IsC K C ∧ PySem.W.kitOne K (.ref C) cv = some false
theorem kit_int {K : PySem.W.Frag} {os : List Addr} (h : KitO K (.type "int") os) : KitR K (.type "int") (isiInt os) := by
  intro x b e
  cases x <;> simp only [isiInt, reduceCtorEq, Option.some.injEq] at e
  case non => exact ⟨_, rfl, (fun _ _ z => nomatch z), by subst e; exact kit_ty (by decide +kernel)⟩
  case bl => exact ⟨_, rfl, (fun _ _ z => nomatch z), by subst e; exact kit_ty (by decide +kernel)⟩
  case int => exact ⟨_, rfl, (fun _ _ z => nomatch z), by subst e; exact kit_ty (by decide +kernel)⟩
  case str => exact ⟨_, rfl, (fun _ _ z => nomatch z), by subst e; exact kit_ty (by decide +kernel)⟩
  case lst => exact ⟨_, rfl, (fun _ _ z => nomatch z), by subst e; exact kit_ty (by decide +kernel)⟩
  case tup => exact ⟨_, rfl, (fun _ _ z => nomatch z), by subst e; exact kit_ty (by decide +kernel)⟩
  case obj C fs =>
    split at e
    · rename_i hC
      cases e
      obtain ⟨h1, h2⟩ := h C (inL_mem hC)
      exact ⟨_, rfl, (fun _ _ z => by cases z; exact h1), h2⟩
    · cases e
theorem kit_bool {K : PySem.W.Frag} {os : List Addr} (h : KitO K (.type "bool") os) : KitR K (.type "bool") (isiBool os) := by
  intro x b e
  cases x <;> simp only [isiBool, reduceCtorEq, Option.some.injEq] at e
  case non => exact ⟨_, rfl, (fun _ _ z => nomatch z), by subst e; exact kit_ty (by decide +kernel)⟩
  case bl => exact ⟨_, rfl, (fun _ _ z => nomatch z), by subst e; exact kit_ty (by decide +kernel)⟩
  case int => exact ⟨_, rfl, (fun _ _ z => nomatch z), by subst e; exact kit_ty (by decide +kernel)⟩
  case str => exact ⟨_, rfl, (fun _ _ z => nomatch z), by subst e; exact kit_ty (by decide +kernel)⟩
  case lst => exact ⟨_, rfl, (fun _ _ z => nomatch z), by subst e; exact kit_ty (by decide +kernel)⟩
  case tup => exact ⟨_, rfl, (fun _ _ z => nomatch z), by subst e; exact kit_ty (by decide +kernel)⟩
  case obj C fs =>
    split at e
    · rename_i hC
      cases e
      obtain ⟨h1, h2⟩ := h C (inL_mem hC)
      exact ⟨_, rfl, (fun _ _ z => by cases z; exact h1), h2⟩
    · cases e
theorem kit_str {K : PySem.W.Frag} {os : List Addr} (h : KitO K (.type "str") os) : KitR K (.type "str") (isiStr os) := by
  intro x b e
  cases x <;> simp only [isiStr, reduceCtorEq, Option.some.injEq] at e
  case non => exact ⟨_, rfl, (fun _ _ z => nomatch z), by subst e; exact kit_ty (by decide +kernel)⟩
  case bl => exact ⟨_, rfl, (fun _ _ z => nomatch z), by subst e; exact kit_ty (by decide +kernel)⟩
  case int => exact ⟨_, rfl, (fun _ _ z => nomatch z), by subst e; exact kit_ty (by decide +kernel)⟩
  case str => exact ⟨_, rfl, (fun _ _ z => nomatch z), by subst e; exact kit_ty (by decide +kernel)⟩
  case lst => exact ⟨_, rfl, (fun _ _ z => nomatch z), by subst e; exact kit_ty (by decide +kernel)⟩
  case tup => exact ⟨_, rfl, (fun _ _ z => nomatch z), by subst e; exact kit_ty (by decide +kernel)⟩
  case obj C fs =>
    split at e
    · rename_i hC
      cases e
      obtain ⟨h1, h2⟩ := h C (inL_mem hC)
      exact ⟨_, rfl, (fun _ _ z => by cases z; exact h1), h2⟩
    · cases e
/-- what the written part says of isinstance(x, D) -/
structure KitC (K : PySem.W.Frag) (D : Addr) : Prop where
  self : PySem.W.kitOne K (.ref D) (.ref D) = some true
  int : PySem.W.kitOne K (.type "int") (.ref D) = some false
  bl : PySem.W.kitOne K (.type "bool") (.ref D) = some false
  str : PySem.W.kitOne K (.type "str") (.ref D) = some false
  non : PySem.W.kitOne K (.type "NoneType") (.ref D) = some false
  lst : PySem.W.kitOne K (.type "list") (.ref D) = some false
  tup : PySem.W.kitOne K (.type "tuple") (.ref D) = some false
theorem kit_c {K : PySem.W.Frag} {D : Addr} {os : List Addr} (hD : IsC K D) (k : KitC K D) (h : KitO K (.ref D) os) : KitR K (.ref D) (isiC D os) := by
  intro x b e
  cases x <;> simp only [isiC, reduceCtorEq, Option.some.injEq] at e
  case non => exact ⟨_, rfl, (fun _ _ z => nomatch z), by subst e; exact k.non⟩
  case bl => exact ⟨_, rfl, (fun _ _ z => nomatch z), by subst e; exact k.bl⟩
  case int => exact ⟨_, rfl, (fun _ _ z => nomatch z), by subst e; exact k.int⟩
  case str => exact ⟨_, rfl, (fun _ _ z => nomatch z), by subst e; exact k.str⟩
  case lst => exact ⟨_, rfl, (fun _ _ z => nomatch z), by subst e; exact k.lst⟩
  case tup => exact ⟨_, rfl, (fun _ _ z => nomatch z), by subst e; exact k.tup⟩
  case obj C fs =>
    split at e
    · rename_i hC
      subst hC
      cases e
      exact ⟨_, rfl, (fun _ _ z => by cases z; exact hD), k.self⟩
    · split at e
      · rename_i hC
        cases e
        obtain ⟨h1, h2⟩ := h C (inL_mem hC)
        exact ⟨_, rfl, (fun _ _ z => by cases z; exact h1), h2⟩
      · cases e
/-- which values an own == may be asked with -/
def nfC (D : Addr) (os : List Addr) : PV → Bool
  | .obj C _ => decide (C = D) || inL C os
  | .str _ => true
  | .bl _ => true
  | .int _ => true
  | .non => true
  | .lst _ => true
  | .tup _ => true
  | _ => false
structure NotF (K : PySem.W.Frag) (D : Addr) : Prop where
  int : PySem.W.notFirst K D (.type "int") = true
  bl : PySem.W.notFirst K D (.type "bool") = true
  str : PySem.W.notFirst K D (.type "str") = true
  non : PySem.W.notFirst K D (.type "NoneType") = true
  lst : PySem.W.notFirst K D (.type "list") = true
  tup : PySem.W.notFirst K D (.type "tuple") = true
theorem nf_c {K : PySem.W.Frag} {D : Addr} {os : List Addr} (hD : IsC K D) (k : NotF K D) (h : ∀ C ∈ os, IsC K C ∧ PySem.W.notFirst K D (.ref C) = true) : NfR K D (nfC D os) := by
  intro x e
  cases x <;> simp only [nfC, reduceCtorEq, Bool.false_eq_true] at e
  case non => exact ⟨_, rfl, (fun _ _ z => nomatch z), k.non⟩
  case bl => exact ⟨_, rfl, (fun _ _ z => nomatch z), k.bl⟩
  case int => exact ⟨_, rfl, (fun _ _ z => nomatch z), k.int⟩
  case str => exact ⟨_, rfl, (fun _ _ z => nomatch z), k.str⟩
  case lst => exact ⟨_, rfl, (fun _ _ z => nomatch z), k.lst⟩
  case tup => exact ⟨_, rfl, (fun _ _ z => nomatch z), k.tup⟩
  case obj C fs =>
    rcases Bool.or_eq_true_iff.mp e with e | e
    · have := of_decide_eq_true e
      subst this
      exact ⟨_, rfl, (fun _ _ z => by cases z; exact hD), by unfold PySem.W.notFirst; simp⟩
    · obtain ⟨h1, h2⟩ := h C (inL_mem e)
      exact ⟨_, rfl, (fun _ _ z => by cases z; exact h1), h2⟩
theorem tkOf {X : Cx} {W : WX} (t : Takes X W) : Tk X W := fun σ => passAt t σ
end QL

namespace QL
open PySem PySem.Spec PyProof.Rows L2
/-! ### the written part's tables -/
theorem kit_self {K : PySem.W.Frag} (D : Addr) : PySem.W.kitOne K (.ref D) (.ref D) = some true := by
  unfold PySem.W.kitOne
  rw [if_pos (beq_self_eq_true _)]
theorem kit_ref {K : PySem.W.Frag} {D : Addr} {t : Value} {b : Bool} (h1 : PySem.W.isClsIn K D = true) (h2 : PySem.W.typeIn K (.ref D) = some (.type "type")) (h3 : PySem.W.subIn K t (.ref D) = some b) (h4 : b = true ∨ (t == .ref D) = false) :
    PySem.W.kitOne K t (.ref D) = some b := by
  have e2 : ((PySem.W.clsIn K D).isSome && PySem.W.typeIn K (.ref D) == some (.type "type")) = true := by
    have h2' : (PySem.W.clsIn K D).isSome = true := h1
    rw [h2', h2] <;> rfl
  unfold PySem.W.kitOne
  by_cases e : (t == .ref D) = true
  · rw [if_pos e]
    rcases h4 with rfl | h4
    · rfl
    · rw [h4] at e
      cases e
  · rw [if_neg e]
    show (if ((PySem.W.clsIn K D).isSome && PySem.W.typeIn K (.ref D) == some (.type "type")) = true then PySem.W.subIn K t (.ref D) else none) = some b
    rw [if_pos e2]
    exact h3
theorem kit_typ {K : PySem.W.Frag} {C : Addr} {n : String} {b : Bool} (h3 : PySem.W.subIn K (.ref C) (.type n) = some b) (h1 : PySem.W.kitMeta n = true := by decide +kernel) : PySem.W.kitOne K (.ref C) (.type n) = some b := by
  unfold PySem.W.kitOne
  rw [if_neg (by intro z; cases z)]
  show (if PySem.W.kitMeta n = true then PySem.W.subIn K (.ref C) (.type n) else none) = some b
  rw [if_pos h1]
  exact h3
theorem exm_ref {K : PySem.W.Frag} {C D : Addr} {b : Bool} (h1 : PySem.W.subIn K (.ref D) (.type "BaseException") = some true) (h2 : PySem.W.isClsIn K D = true) (h3 : PySem.W.typeIn K (.ref D) = some (.type "type")) (h4 : PySem.W.subIn K (.ref C) (.ref D) = some b) :
    PySem.W.exmOne K (.ref C) (.ref D) = some b := by
  have e1 : (PySem.W.subIn K (.ref D) (.type "BaseException") == some true) = true := by rw [h1] <;> rfl
  have e2 : ((PySem.W.clsIn K D).isSome && PySem.W.typeIn K (.ref D) == some (.type "type")) = true := by
    have h2' : (PySem.W.clsIn K D).isSome = true := h2
    rw [h2', h3] <;> rfl
  show (if (PySem.W.subIn K (.ref D) (.type "BaseException") == some true) = true then (if ((PySem.W.clsIn K D).isSome && PySem.W.typeIn K (.ref D) == some (.type "type")) = true then PySem.W.subIn K (.ref C) (.ref D) else none) else none) = some b
  rw [if_pos e1, if_pos e2]
  exact h4
theorem kitc_of {K : PySem.W.Frag} {D : Addr} (h1 : PySem.W.isClsIn K D = true) (h2 : PySem.W.typeIn K (.ref D) = some (.type "type"))
    (i : PySem.W.subIn K (.type "int") (.ref D) = some false) (b : PySem.W.subIn K (.type "bool") (.ref D) = some false) (s : PySem.W.subIn K (.type "str") (.ref D) = some false) (n : PySem.W.subIn K (.type "NoneType") (.ref D) = some false)
    (l : PySem.W.subIn K (.type "list") (.ref D) = some false) (t : PySem.W.subIn K (.type "tuple") (.ref D) = some false) : KitC K D :=
  ⟨kit_self D, kit_ref h1 h2 i (.inr rfl), kit_ref h1 h2 b (.inr rfl), kit_ref h1 h2 s (.inr rfl), kit_ref h1 h2 n (.inr rfl), kit_ref h1 h2 l (.inr rfl), kit_ref h1 h2 t (.inr rfl)⟩
/-! ### the law's own promise, the end -/
theorem q_sp {K : PySem.W.Frag} {H : Hp} {a : Addr} {ns : List Int} {P : PSpec} (hS : SqL K H a (ns.map V.int)) (h : ∀ y, P [.lst (ns.map PV.int)] y (fun x => x = .bl true)) : spP K P [.ref a] H (fun v _ => v = .bl true) fun _ _ _ => False := by
  refine ⟨H, [.lst (ns.map PV.int)], fun _ => False, fun x => x = .bl true, .refl H, .cons (.lst hS (reps_ints ns)) .nil, h _, ?_, fun _ _ _ _ _ _ z => z⟩
  rintro x v G' H' _ r rfl
  cases r
  rfl
end QL

namespace QL
open PySem PySem.Spec PyProof.Rows L2
/-! ### pure steps -/
theorem ite_b {c : Bool} {P Q : Prop} (h1 : c = true → P) (h2 : c = false → Q) : if c = true then P else Q := by
  cases c
  · exact h2 rfl
  · exact h1 rfl
theorem ite_t {c : Bool} {P Q : Prop} (h : c = true) (h1 : P) : if c = true then P else Q := by rw [if_pos h]; exact h1
theorem ite_f {c : Bool} {P Q : Prop} (h : c = false) (h1 : Q) : if c = true then P else Q := by subst h; exact h1
theorem qcut {q r : QS} {D : QD} {ρ : PSt} (I : PSt → Prop) (h1 : q { D with nx := I } ρ) (h2 : ∀ ρ', I ρ' → r D ρ') : qCut q r D ρ := ⟨I, h1, h2⟩
/-- if c: q (which ends the def) -/
theorem guard {c : QT} {q r : QS} {D : QD} {ρ : PSt} (h : ∀ R : Prop, R → c ρ (D.ex ρ) (fun b => if b = true then q { D with nx := fun ρ' => r D ρ' } ρ else R)) (h2 : r D ρ) : qSeq (qIfS c q qNext) r D ρ := h _ h2
theorem loop_at {i : Nat} {q : QS} {D : QD} {xs : List PV} {ρ : PSt} (I : Nat → PSt → Prop) (h0 : I 0 ρ)
    (hs : ∀ (k : Nat) (x : PV) (ρ : PSt) (N : PSt → Prop), xs[k]? = some x → (∀ ρ', I (k + 1) ρ' → N ρ') → I k ρ → q { D with nx := N, ct := N, bk := D.nx } (ρ.set i (some (.pv x)))) (he : ∀ ρ, I xs.length ρ → D.nx ρ) : qLoop i q D xs ρ := by
  have key : ∀ (ys : List PV) (k : Nat) (ρ : PSt), xs.drop k = ys → k ≤ xs.length → I k ρ → qLoop i q D ys ρ := by
    intro ys
    induction ys with
    | nil =>
      intro k ρ e hk h
      have : k = xs.length := by
        have := congrArg List.length e
        rw [List.length_drop] at this
        simp at this
        omega
      subst this
      exact he ρ h
    | cons y ys ih =>
      intro k ρ e hk h
      have hl : k < xs.length := by
        have := congrArg List.length e
        rw [List.length_drop] at this
        simp at this
        omega
      have hy : xs[k]? = some y := by
        have := congrArg (fun l => l[0]?) e
        simpa using this
      have ht : xs.drop (k + 1) = ys := by
        have := congrArg List.tail e
        simpa using this
      exact hs k y ρ (fun ρ' => qLoop i q D ys ρ') hy (fun ρ' h' => ih (k + 1) ρ' ht hl h') h
  exact key xs 0 ρ (by simp) (Nat.zero_le _) h0
theorem map_at {α : Type} {f : α → PV} {l : List α} {k : Nat} {x : PV} (h : (l.map f)[k]? = some x) : ∃ a, l[k]? = some a ∧ x = f a := by
  rw [List.getElem?_map] at h
  cases e : l[k]? with
  | none => rw [e] at h; cases h
  | some a => rw [e] at h; exact ⟨a, rfl, (Option.some.inj h).symm⟩
theorem rangeP_at {lo : Int} {n k : Nat} {x : PV} (h : (rangeP lo n)[k]? = some x) : k < n ∧ x = .int (lo + (k : Int)) := by
  obtain ⟨j, h1, h2⟩ := map_at h
  rw [List.getElem?_range] at h1
  · cases h1
    have := (List.getElem?_eq_some_iff.mp h).1
    simp [rangeP] at this
    exact ⟨this, h2⟩
  · have := (List.getElem?_eq_some_iff.mp h).1
    simpa [rangeP] using this
theorem rangeP_len {lo : Int} {n : Nat} : (rangeP lo n).length = n := by simp [rangeP]
theorem rangeC_at {lo c : Int} {n k : Nat} {x : PV} (h : (rangeC lo c n)[k]? = some x) : k < n ∧ x = .int (lo + (k : Int) * c) := by
  obtain ⟨j, h1, h2⟩ := map_at h
  have hk : k < n := by
    have := (List.getElem?_eq_some_iff.mp h).1
    simpa [rangeC] using this
  rw [List.getElem?_range hk] at h1
  cases h1
  exact ⟨hk, h2⟩
/-! ### heap bits for the exceptions' stores -/
theorem x_at1 {H : Hp} {x : Addr} {o : HO} : upd H x o x = some o := upd_same
theorem x_at2 {H : Hp} {x d : Addr} {o u : HO} (h : d ≠ x) : upd (upd H d u) x o d = some u := by rw [upd_ne h]; exact upd_same
theorem x_at3 {H : Hp} {x d : Addr} {o u : HO} (h : d ≠ x) (e : H x = some o) : upd H d u x = some o := by rw [upd_ne (Ne.symm h)]; exact e
theorem reps_getD {K : PySem.W.Frag} {G : Hp} {xs : List PV} {vs : List V} (r : Reps K G xs vs) (j : Nat) : Rep K G (xs.getD j .non) (vs.getD j .non) := by
  rw [List.getD_eq_getElem?_getD, List.getD_eq_getElem?_getD]
  cases e : xs[j]? with
  | none =>
    have : vs[j]? = none := by
      rw [List.getElem?_eq_none_iff] at e ⊢
      rw [← r.length]; exact e
    rw [this]
    exact .non
  | some x =>
    obtain ⟨v, h1, h2⟩ := r.get e
    rw [h1]
    exact h2
theorem lookup_hd {α : Type} {k : Str} {v : α} {r : List (Str × α)} : List.lookup k ((k, v) :: r) = some v := by
  rw [List.lookup_cons, beq_self_eq_true]
theorem lookup_tl {α : Type} {k k' : Str} {v : α} {r : List (Str × α)} (h : (k == k') = false) : List.lookup k ((k', v) :: r) = List.lookup k r := by
  rw [List.lookup_cons, h]
theorem putP_nil {f : Str} {v : PV} : putP f v [] = [(f, v)] := rfl
theorem putP_hd {f : Str} {v u : PV} {r : List (Str × PV)} : putP f v ((f, u) :: r) = (f, v) :: r := if_pos rfl
theorem putP_tl {f g : Str} {v u : PV} {r : List (Str × PV)} (h : (g == f) = false) : putP f v ((g, u) :: r) = (g, u) :: putP f v r := if_neg (by intro e; subst e; rw [beq_self_eq_true] at h; cases h)
theorem atI_nth {α : Type} (xs : List α) (k : Nat) : atI xs (k : Int) = xs[k]? := by
  unfold atI ixN
  rw [if_pos (by omega)]
  by_cases h : k < xs.length
  · rw [if_pos (by omega)]
    show xs[(k : Int).toNat]? = _
    rw [Int.toNat_natCast]
  · rw [if_neg (by omega)]
    exact (List.getElem?_eq_none (by omega)).symm
theorem atI_l0 {α : Type} (xs : List α) : atI xs 0 = xs[0]? := atI_nth xs 0
theorem atI_l1 {α : Type} (xs : List α) : atI xs 1 = xs[1]? := atI_nth xs 1
theorem atI_l2 {α : Type} (xs : List α) : atI xs 2 = xs[2]? := atI_nth xs 2
theorem atI_l3 {α : Type} (xs : List α) : atI xs 3 = xs[3]? := atI_nth xs 3
theorem atI_l4 {α : Type} (xs : List α) : atI xs 4 = xs[4]? := atI_nth xs 4
theorem atI_l5 {α : Type} (xs : List α) : atI xs 5 = xs[5]? := atI_nth xs 5
theorem atI_l6 {α : Type} (xs : List α) : atI xs 6 = xs[6]? := atI_nth xs 6
theorem atI_l7 {α : Type} (xs : List α) : atI xs 7 = xs[7]? := atI_nth xs 7
theorem atI_l8 {α : Type} (xs : List α) : atI xs 8 = xs[8]? := atI_nth xs 8
theorem atI_l9 {α : Type} (xs : List α) : atI xs 9 = xs[9]? := atI_nth xs 9
theorem atI_l10 {α : Type} (xs : List α) : atI xs 10 = xs[10]? := atI_nth xs 10
theorem atI_l11 {α : Type} (xs : List α) : atI xs 11 = xs[11]? := atI_nth xs 11
theorem atI_l12 {α : Type} (xs : List α) : atI xs 12 = xs[12]? := atI_nth xs 12
/-! ### sizes -/
/-- few bits -/
def Sz (n : Nat) (x : Int) : Prop := x.natAbs < 2 ^ n
theorem Sz.mono {n m : Nat} {x : Int} (h : Sz n x) (hm : n ≤ m) : Sz m x := Nat.lt_of_lt_of_le h (Nat.pow_le_pow_right (by decide) hm)
theorem Sz.neg {n : Nat} {x : Int} (h : Sz n x) : Sz n (-x) := by
  unfold Sz
  rw [Int.natAbs_neg]
  exact h
theorem Sz.abs {n : Nat} {x : Int} (h : Sz n x) : Sz n (if x < 0 then -x else x) := by
  split
  · exact h.neg
  · exact h
theorem Sz.mul {n m : Nat} {x y : Int} (h : Sz n x) (h' : Sz m y) : Sz (n + m) (x * y) := by
  unfold Sz at *
  rw [Int.natAbs_mul, Nat.pow_add]
  have := Nat.two_pow_pos n
  have := Nat.two_pow_pos m
  exact Nat.mul_lt_mul'' h h'
theorem Sz.add {n : Nat} {x y : Int} (h : Sz n x) (h' : Sz n y) : Sz (n + 1) (x + y) := by
  unfold Sz at *
  rw [Nat.pow_succ]
  omega
theorem Sz.sub {n : Nat} {x y : Int} (h : Sz n x) (h' : Sz n y) : Sz (n + 1) (x - y) := by
  unfold Sz at *
  rw [Nat.pow_succ]
  omega
theorem Sz.log {n : Nat} {x : Int} (h : Sz n x) (hn : 0 < n) : x.natAbs.log2 < n := by
  unfold Sz at h
  by_cases e : x.natAbs = 0
  · rw [e]
    simpa using hn
  · exact (Nat.log2_lt e).mpr h
theorem Sz.fdiv {n : Nat} {x y : Int} (h : Sz n x) : Sz n (x.fdiv y) ∨ x < 0 ∨ y < 0 := by
  by_cases hx : x < 0
  · exact .inr (.inl hx)
  by_cases hy : y < 0
  · exact .inr (.inr hy)
  left
  unfold Sz at *
  rw [Int.fdiv_eq_ediv_of_nonneg _ (by omega)]
  exact Nat.lt_of_le_of_lt (Int.natAbs_ediv_le_natAbs _ _) h
theorem Sz.le {n : Nat} {x y : Int} (h : Sz n x) (h' : y.natAbs ≤ x.natAbs) : Sz n y := Nat.lt_of_le_of_lt h' h
theorem mulW {n m : Nat} {x y : Int} (h : Sz n x) (h' : Sz m y) (e : n + m ≤ 1000000) (hn : 0 < n := by decide) (hm : 0 < m := by decide) : CMul x y ∨ CMulW x y := by
  have h1 := h.log hn
  have h2 := h'.log hm
  exact .inr (show x.natAbs.log2 + y.natAbs.log2 < 1000000 by omega)
theorem divW {n : Nat} {x y : Int} (h : Sz n y) (h0 : y ≠ 0) (e : n ≤ 9000) (hn : 0 < n := by decide) : CDivG x y := ⟨h0, Nat.lt_of_lt_of_le (h.log hn) e⟩
theorem mulR {x y : Int} (h : -(2 ^ 64) < y ∧ y < 2 ^ 64) : CMul x y ∨ CMulW x y := .inl (.inr h)
theorem mulL {x y : Int} (h : -(2 ^ 64) < x ∧ x < 2 ^ 64) : CMul x y ∨ CMulW x y := .inl (.inl h)
theorem divR {x y : Int} (h0 : y ≠ 0) (h : y.natAbs < 2 ^ 9000) : CDivG x y := divW (n := 9000) h h0 (by decide)
theorem powC {x y : Int} (h0 : 0 ≤ y := by decide) (h : (Builtin.Int.intBits x : Int) * y ≤ 2 ^ 27 := by decide) : CPowW x y := ⟨h0, h⟩
theorem qLoop_nil (i : Nat) (q : QS) (D : QD) (ρ : PSt) : qLoop i q D [] ρ = D.nx ρ := rfl
theorem qLoop_cons (i : Nat) (q : QS) (D : QD) (x : PV) (xs : List PV) (ρ : PSt) : qLoop i q D (x :: xs) ρ = q { D with nx := fun ρ' => qLoop i q D xs ρ', ct := fun ρ' => qLoop i q D xs ρ', bk := D.nx } (ρ.set i (some (.pv x))) := rfl
theorem Sz.emod {n : Nat} {x y : Int} (h : Sz n y) (hy : 0 < y) : Sz n (x % y) := by
  have h1 := Int.emod_nonneg x (Int.ne_of_gt hy)
  have h2 := Int.emod_lt_of_pos x hy
  exact h.le (by omega)
theorem sz_small {n : Nat} {x : Int} (h1 : -32 ≤ x) (h2 : x ≤ 32) (hn : 6 ≤ n) : Sz n x := by
  have : Sz 6 x := by
    unfold Sz
    omega
  exact this.mono hn
theorem atI_ints {ns : List Int} {k : Int} (h0 : 0 ≤ k) (h1 : k < ns.length) : ∃ z, atI (ns.map PV.int) k = some (.int z) := by
  obtain ⟨n, rfl⟩ := Int.eq_ofNat_of_zero_le h0
  have h1 : n < ns.length := by omega
  exact ⟨ns[n], by rw [atI_nth, List.getElem?_map, List.getElem?_eq_getElem h1]; rfl⟩
end QL

namespace QL
open PySem PySem.Spec PyProof.Rows L2
/-! ### lowest terms -/
abbrev rat (C : Addr) (t b : Int) : PV := .obj C [("top", .int t), ("bottom", .int b)]
def gcdZ (a b : Int) : Int := ((Nat.gcd a.natAbs b.natAbs : Nat) : Int)
def sharedN : List Int → Int → Int
  | [], p => p
  | t :: ts, p => if p = 1 then p else sharedN ts (gcdZ p t)
def shared (ts : List Int) (b : Int) : Int := if b > 0 then sharedN ts (if b < 0 then -b else b) else -sharedN ts (if b < 0 then -b else b)
def nT (t b : Int) : Int := t.fdiv (shared [t] b)
def nB (t b : Int) : Int := b.fdiv (shared [t] b)
/-- lowest terms -/
def Low (t b : Int) : Prop := 0 < b ∧ nT t b = t ∧ nB t b = b
theorem sharedN1 (t p : Int) : sharedN [t] p = gcdZ p t := by
  show (if p = 1 then p else gcdZ p t) = gcdZ p t
  split
  · rename_i h
    subst h
    show (1 : Int) = ((Nat.gcd 1 t.natAbs : Nat) : Int)
    rw [Nat.gcd_one_left]
    rfl
  · rfl
theorem gcdZ_abs (b t : Int) : gcdZ (if b < 0 then -b else b) t = gcdZ t b := by
  unfold gcdZ
  rw [Nat.gcd_comm]
  congr 2
  split
  · exact Int.natAbs_neg b
  · rfl
theorem shared1 (t b : Int) : shared [t] b = if b > 0 then gcdZ t b else -gcdZ t b := by
  unfold shared
  rw [sharedN1, gcdZ_abs]
theorem gcdZ_pos {t b : Int} (hb : b ≠ 0) : 0 < gcdZ t b := by
  have : 0 < Nat.gcd t.natAbs b.natAbs := Nat.gcd_pos_of_pos_right _ (by omega)
  unfold gcdZ
  omega
theorem sh_abs (t b : Int) : (shared [t] b).natAbs = Nat.gcd t.natAbs b.natAbs := by
  rw [shared1]
  split
  · rfl
  · rw [Int.natAbs_neg]; rfl
theorem sh_ne {t b : Int} (hb : b ≠ 0) : shared [t] b ≠ 0 := by
  have := sh_abs t b
  have h2 : 0 < Nat.gcd t.natAbs b.natAbs := Nat.gcd_pos_of_pos_right _ (by omega)
  omega
theorem sh_sz {n : Nat} {t b : Int} (h : Sz n b) (hb : b ≠ 0) : Sz n (shared [t] b) := by
  refine h.le ?_
  rw [sh_abs]
  exact Nat.gcd_le_right _ (by omega)
theorem sh_dvd_t (t b : Int) : shared [t] b ∣ t := by
  rw [← Int.natAbs_dvd_natAbs, sh_abs]
  exact Nat.gcd_dvd_left _ _
theorem sh_dvd_b (t b : Int) : shared [t] b ∣ b := by
  rw [← Int.natAbs_dvd_natAbs, sh_abs]
  exact Nat.gcd_dvd_right _ _
theorem fdiv_mul {x s : Int} (h : s ∣ x) : x.fdiv s * s = x := by
  rw [Int.fdiv_eq_ediv_of_dvd h]
  exact Int.ediv_mul_cancel h
theorem nT_mul (t b : Int) : nT t b * shared [t] b = t := fdiv_mul (sh_dvd_t t b)
theorem nB_mul (t b : Int) : nB t b * shared [t] b = b := fdiv_mul (sh_dvd_b t b)
theorem pos_fac {x g : Int} (h : 0 < x * g) (hg : 0 < g) : 0 < x := by
  refine Int.not_le.mp fun hx => ?_
  have := Int.mul_le_mul_of_nonneg_right hx (Int.le_of_lt hg)
  rw [Int.zero_mul] at this
  omega
theorem nB_pos {t b : Int} (hb : b ≠ 0) : 0 < nB t b := by
  have h := nB_mul t b
  have h1 := shared1 t b
  have g := gcdZ_pos (t := t) hb
  by_cases hp : b > 0
  · rw [if_pos hp] at h1
    rw [h1] at h
    exact pos_fac (by rw [h]; exact hp) g
  · rw [if_neg hp] at h1
    rw [h1] at h
    have : nB t b * gcdZ t b > 0 := by
      rw [Int.mul_neg] at h
      omega
    exact pos_fac this g
theorem le_of_mul {x s y : Int} (h : x * s = y) (hs : s ≠ 0) : x.natAbs ≤ y.natAbs := by
  rw [← h, Int.natAbs_mul]
  exact Nat.le_mul_of_pos_right _ (by omega)
theorem nT_sz {n : Nat} {t b : Int} (h : Sz n t) (hb : b ≠ 0) : Sz n (nT t b) := h.le (le_of_mul (nT_mul t b) (sh_ne hb))
theorem nB_sz {n : Nat} {t b : Int} (h : Sz n b) (hb : b ≠ 0) : Sz n (nB t b) := h.le (le_of_mul (nB_mul t b) (sh_ne hb))
theorem low_co {p q : Int} (hq : 0 < q) (h : Nat.gcd p.natAbs q.natAbs = 1) : Low p q := by
  have e : shared [p] q = 1 := by
    rw [shared1, if_pos hq]
    unfold gcdZ
    rw [h]
    rfl
  refine ⟨hq, ?_, ?_⟩
  · unfold nT
    rw [e, Int.fdiv_one]
  · unfold nB
    rw [e, Int.fdiv_one]
theorem Low.co {p q : Int} (h : Low p q) : Nat.gcd p.natAbs q.natAbs = 1 := by
  obtain ⟨h1, h2, h3⟩ := h
  have h4 := nB_mul p q
  rw [h3] at h4
  have h5 : (shared [p] q).natAbs = 1 := by
    have := congrArg Int.natAbs h4
    rw [Int.natAbs_mul] at this
    have hq0 : 0 < q.natAbs := Int.natAbs_pos.mpr (by intro z; rw [z] at h1; exact absurd h1 (by decide))
    exact Nat.eq_of_mul_eq_mul_left hq0 (this.trans (Nat.mul_one _).symm)
  rw [sh_abs] at h5
  exact h5
theorem n_co {t b : Int} (hb : b ≠ 0) : Nat.gcd (nT t b).natAbs (nB t b).natAbs = 1 := by
  have h1 := congrArg Int.natAbs (nT_mul t b)
  have h2 := congrArg Int.natAbs (nB_mul t b)
  rw [Int.natAbs_mul] at h1 h2
  have h3 : Nat.gcd ((nT t b).natAbs * (shared [t] b).natAbs) ((nB t b).natAbs * (shared [t] b).natAbs) = (shared [t] b).natAbs := by
    rw [h1, h2, sh_abs]
  rw [Nat.gcd_mul_right] at h3
  have h4 : 0 < (shared [t] b).natAbs := by
    have := sh_ne (t := t) hb
    omega
  exact Nat.eq_of_mul_eq_mul_right h4 (by omega)
theorem low_n {t b : Int} (hb : b ≠ 0) : Low (nT t b) (nB t b) := low_co (nB_pos hb) (n_co hb)
theorem Low.neg {p q : Int} (h : Low p q) : Low (-p) q := low_co h.1 (by rw [Int.natAbs_neg]; exact h.co)
theorem low_1 (t : Int) : Low t 1 := low_co (by decide) (by show Nat.gcd t.natAbs 1 = 1; exact Nat.gcd_one_right _)
theorem n_0 {b : Int} (hb : b ≠ 0) : nT 0 b = 0 ∧ nB 0 b = 1 := by
  have h1 := nT_mul 0 b
  have h2 : nT 0 b = 0 := by
    rcases Int.mul_eq_zero.mp h1 with h | h
    · exact h
    · exact absurd h (sh_ne hb)
  refine ⟨h2, ?_⟩
  have h3 := n_co (t := 0) hb
  rw [h2] at h3
  have h4 := nB_pos (t := 0) hb
  have h5 : Nat.gcd 0 (nB 0 b).natAbs = (nB 0 b).natAbs := Nat.gcd_zero_left _
  have h6 : (nB 0 b).natAbs = 1 := by
    rw [← h5]
    exact h3
  omega
theorem shared_neg (t b : Int) : shared [-t] b = shared [t] b := by
  rw [shared1, shared1]
  unfold gcdZ
  rw [Int.natAbs_neg]
theorem nT_neg (t b : Int) : nT (-t) b = -nT t b := by
  unfold nT
  rw [shared_neg, Int.fdiv_eq_ediv_of_dvd (sh_dvd_t t b), Int.fdiv_eq_ediv_of_dvd (Int.dvd_neg.mpr (sh_dvd_t t b)), Int.neg_ediv_of_dvd (sh_dvd_t t b)]
theorem nB_neg (t b : Int) : nB (-t) b = nB t b := by
  unfold nB
  rw [shared_neg]
theorem sub_comm' (x z : Int) : z - x = -(x - z) := by omega
/-! ### Euclid's turns -/
theorem bits_lt (n : Nat) : n < 2 ^ Builtin.Int.intBits (n : Int) := by
  unfold Builtin.Int.intBits
  split
  · rename_i h
    have h : n = 0 := by simpa using h
    subst h
    decide
  · simp only [Int.natAbs_natCast]
    exact Nat.lt_log2_self
theorem euc_step {m n k B : Nat} (h1 : n < m) (h2 : m * n * 2 ^ k < B) (hn : n ≠ 0) : m % n < n ∧ n * (m % n) * 2 ^ (k + 1) < B ∧ Nat.gcd n (m % n) = Nat.gcd m n := by
  have hl : m % n < n := Nat.mod_lt _ (by omega)
  refine ⟨hl, ?_, ?_⟩
  · have h3 : 2 * (m % n) ≤ m := by
      have e := Nat.div_add_mod m n
      have d : 1 ≤ m / n := Nat.div_pos (Nat.le_of_lt h1) (by omega)
      have : n * 1 ≤ n * (m / n) := Nat.mul_le_mul_left _ d
      omega
    calc n * (m % n) * 2 ^ (k + 1) = n * (2 * (m % n)) * 2 ^ k := by rw [Nat.pow_succ]; simp only [Nat.mul_assoc, Nat.mul_comm, Nat.mul_left_comm]
      _ ≤ n * m * 2 ^ k := Nat.mul_le_mul_right _ (Nat.mul_le_mul_left _ h3)
      _ = m * n * 2 ^ k := by rw [Nat.mul_comm n m]
      _ < B := h2
  · rw [Nat.gcd_comm n, ← Nat.gcd_rec, Nat.gcd_comm]
theorem euc_first {m n b : Nat} (hn : n ≠ 0) (h : n < 2 ^ b) : m % n < n ∧ n * (m % n) * 2 ^ 0 < 2 ^ (2 * b) ∧ Nat.gcd n (m % n) = Nat.gcd m n := by
  have hl : m % n < n := Nat.mod_lt _ (by omega)
  refine ⟨hl, ?_, ?_⟩
  · rw [Nat.pow_zero, Nat.mul_one, Nat.two_mul, Nat.pow_add]
    exact Nat.mul_lt_mul'' h (Nat.lt_trans hl h)
  · rw [Nat.gcd_comm n, ← Nat.gcd_rec, Nat.gcd_comm]
theorem euc_end {m n b : Nat} (h1 : n < m) (h2 : m * n * 2 ^ (2 * b + 1) < 2 ^ (2 * b)) : n = 0 := by
  by_cases e : n = 0
  · exact e
  · have : 1 ≤ m * n := Nat.mul_pos (by omega) (by omega)
    have h3 : 1 * 2 ^ (2 * b + 1) ≤ m * n * 2 ^ (2 * b + 1) := Nat.mul_le_mul_right _ this
    have h4 : 2 ^ (2 * b) ≤ 2 ^ (2 * b + 1) := Nat.pow_le_pow_right (by decide) (by omega)
    omega
end QL

namespace QL
open PySem PySem.Spec PyProof.Rows L2
/-! ### the equations at full arity (printed by eqgen.py) -/
theorem qVar_eq (i : Nat) (ρ : PSt) (u0 : Y) (Q : PV → Prop) : qVar i ρ u0 Q = (match ρ[i]? with
  | some (some (.pv x)) => Q x
  | _ => False) := rfl
theorem qC_eq (x : PV) (u0 : PSt) (u1 : Y) (Q : PV → Prop) : qC x u0 u1 Q = (Q x) := rfl
theorem qOp_eq (r : Q2) (qa qb : QE) (ρ : PSt) (y : Y) (Q : PV → Prop) : qOp r qa qb ρ y Q = (qa ρ y fun x => qb ρ y fun z => r x z Q) := rfl
theorem qI_eq (C : Int → Int → Prop) (g : Int → Int → PV) (x : PV) (z : PV) (Q : PV → Prop) : qI C g x z Q = (match x, z with
  | .int i, .int j => C i j ∧ Q (g i j)
  | _, _ => False) := rfl
theorem qI0_eq (g : Int → Int → PV) (x : PV) (z : PV) (Q : PV → Prop) : qI0 g x z Q = (match x, z with
  | .int i, .int j => Q (g i j)
  | _, _ => False) := rfl
theorem qEq_eq (neg : Bool) (x : PV) (z : PV) (Q : PV → Prop) : qEq neg x z Q = (match x, z with
  | .int i, .int j => Q (.bl (neg ^^ (i == j)))
  | .str i, .str j => Q (.bl (neg ^^ (i == j)))
  | .bl i, .bl j => Q (.bl (neg ^^ (i == j)))
  | _, _ => False) := rfl
theorem qIsN_eq (neg : Bool) (x : PV) (z : PV) (Q : PV → Prop) : qIsN neg x z Q = (match x, z with
  | .non, .non => Q (.bl (!neg))
  | .lst _, .non => Q (.bl neg)
  | .tup _, .non => Q (.bl neg)
  | .obj _ _, .non => Q (.bl neg)
  | .int _, .non => Q (.bl neg)
  | .str _, .non => Q (.bl neg)
  | .bl _, .non => Q (.bl neg)
  | _, _ => False) := rfl
theorem qUn_eq (r : PV → (PV → Prop) → Prop) (qa : QE) (ρ : PSt) (y : Y) (Q : PV → Prop) : qUn r qa ρ y Q = (qa ρ y fun x => r x Q) := rfl
theorem qNeg_eq  (x : PV) (Q : PV → Prop) : qNeg  x Q = (match x with
  | .int i => Q (.int (-i))
  | _ => False) := rfl
theorem qB_eq (qa : QE) (ρ : PSt) (y : Y) (Q : Bool → Prop) : qB qa ρ y Q = (qa ρ y fun x => match x with
  | .bl b => Q b
  | _ => False) := rfl
theorem qNotT_eq (q : QT) (ρ : PSt) (y : Y) (Q : Bool → Prop) : qNotT q ρ y Q = (q ρ y fun b => Q (!b)) := rfl
theorem qAndT_eq (q r : QT) (ρ : PSt) (y : Y) (Q : Bool → Prop) : qAndT q r ρ y Q = (q ρ y fun b => if b = true then r ρ y Q else Q false) := rfl
theorem qOrT_eq (q r : QT) (ρ : PSt) (y : Y) (Q : Bool → Prop) : qOrT q r ρ y Q = (q ρ y fun b => if b = true then Q true else r ρ y Q) := rfl
theorem qAndV_eq (q r : QE) (ρ : PSt) (y : Y) (Q : PV → Prop) : qAndV q r ρ y Q = (q ρ y fun x => match x with
  | .bl b => if b = true then r ρ y Q else Q (.bl false)
  | _ => False) := rfl
theorem qOrV_eq (q r : QE) (ρ : PSt) (y : Y) (Q : PV → Prop) : qOrV q r ρ y Q = (q ρ y fun x => match x with
  | .bl b => if b = true then Q (.bl true) else r ρ y Q
  | _ => False) := rfl
theorem qNotV_eq (q : QE) (ρ : PSt) (y : Y) (Q : PV → Prop) : qNotV q ρ y Q = (q ρ y fun x => match x with
  | .bl b => Q (.bl (!b))
  | _ => False) := rfl
theorem qIf_eq (c : QT) (q r : QE) (ρ : PSt) (y : Y) (Q : PV → Prop) : qIf c q r ρ y Q = (c ρ y fun b => if b = true then q ρ y Q else r ρ y Q) := rfl
theorem qNil_eq  (u0 : PSt) (u1 : Y) (Q : List PV → Prop) : qNil  u0 u1 Q = (Q []) := rfl
theorem qCons_eq (q : QE) (r : QA) (ρ : PSt) (y : Y) (Q : List PV → Prop) : qCons q r ρ y Q = (q ρ y fun x => r ρ y fun xs => Q (x :: xs)) := rfl
theorem qTup_eq (q : QA) (ρ : PSt) (y : Y) (Q : PV → Prop) : qTup q ρ y Q = (q ρ y fun xs => xs.length ≤ 1000 ∧ Q (.tup xs)) := rfl
theorem qLst_eq (q : QA) (ρ : PSt) (y : Y) (Q : PV → Prop) : qLst q ρ y Q = (q ρ y fun xs => xs.length ≤ 1000 ∧ Q (.lst xs)) := rfl
theorem qPart_eq (q : QE) (ρ : PSt) (y : Y) (Q : Option Int → Prop) : qPart q ρ y Q = (q ρ y fun x => match x with
  | .int i => Q (some i)
  | _ => False) := rfl
theorem qNoPart_eq  (u0 : PSt) (u1 : Y) (Q : Option Int → Prop) : qNoPart  u0 u1 Q = (Q none) := rfl
theorem qSl_eq (q : QE) (ql qh : QO) (ρ : PSt) (y : Y) (Q : PV → Prop) : qSl q ql qh ρ y Q = (q ρ y fun x => ql ρ y fun lo => qh ρ y fun hi => match x with
  | .lst xs => Q (.lst (cutP xs lo hi))
  | _ => False) := rfl
theorem qNext_eq  (D : QD) (ρ : PSt) : qNext  D ρ = (D.nx ρ) := rfl
theorem qSeq_eq (q r : QS) (D : QD) (ρ : PSt) : qSeq q r D ρ = (q { D with nx := fun ρ' => r D ρ' } ρ) := rfl
theorem qBreak_eq  (D : QD) (ρ : PSt) : qBreak  D ρ = (D.bk ρ) := rfl
theorem qCont_eq  (D : QD) (ρ : PSt) : qCont  D ρ = (D.ct ρ) := rfl
theorem qDrop_eq (q : QE) (D : QD) (ρ : PSt) : qDrop q D ρ = (q ρ (D.ex ρ) fun _ => D.nx ρ) := rfl
theorem qRet_eq (q : QE) (D : QD) (ρ : PSt) : qRet q D ρ = (q ρ (D.ex ρ) D.rt) := rfl
theorem qRetN_eq  (D : QD) (u0 : PSt) : qRetN  D u0 = (D.rt .non) := rfl
theorem qIfS_eq (c : QT) (q r : QS) (D : QD) (ρ : PSt) : qIfS c q r D ρ = (c ρ (D.ex ρ) fun b => if b = true then q D ρ else r D ρ) := rfl
theorem qNever_eq  (u0 : QD) (u1 : PSt) : qNever  u0 u1 = (False) := rfl
theorem qSet_eq (i : Nat) (q : QE) (D : QD) (ρ : PSt) : qSet i q D ρ = (q ρ (D.ex ρ) fun x => D.nx (ρ.set i (some (.pv x)))) := rfl
theorem qOwn_eq (i : Nat) (q : QA) (D : QD) (ρ : PSt) : qOwn i q D ρ = (q ρ (D.ex ρ) fun xs => xs.length ≤ 1000 ∧ D.nx (ρ.set i (some (.own xs)))) := rfl
theorem qFreeze_eq (i : Nat) (q : QS) (D : QD) (ρ : PSt) : qFreeze i q D ρ = (match ρ[i]? with
  | some (some (.own xs)) => q D (ρ.set i (some (.pv (.lst xs))))
  | _ => False) := rfl
theorem qApp_eq (i : Nat) (q : QE) (D : QD) (ρ : PSt) : qApp i q D ρ = (match ρ[i]? with
  | some (some (.own xs)) => xs.length < 10000 ∧ q ρ (D.ex ρ) fun x => D.nx (ρ.set i (some (.own (xs ++ [x]))))
  | _ => False) := rfl
theorem qPar_eq (i j : Nat) (q : QA) (D : QD) (ρ : PSt) : qPar i j q D ρ = (q ρ (D.ex ρ) fun xs => match xs with
  | [x, z] => D.nx ((ρ.set i (some (.pv x))).set j (some (.pv z)))
  | _ => False) := rfl
theorem qUnp_eq (is : List Nat) (q : QE) (D : QD) (ρ : PSt) : qUnp is q D ρ = (q ρ (D.ex ρ) fun x => match x with
  | .tup xs => xs.length = is.length ∧ D.nx (setAll ρ is xs)
  | _ => False) := rfl
theorem qUnpL_eq (is : List Nat) (q : QE) (D : QD) (ρ : PSt) : qUnpL is q D ρ = (q ρ (D.ex ρ) fun x => match x with
  | .lst xs => xs.length = is.length ∧ D.nx (setAll ρ is xs)
  | _ => False) := rfl
theorem qFldS_eq (i : Nat) (f : Str) (C : Addr) (q : QE) (D : QD) (ρ : PSt) : qFldS i f C q D ρ = (match ρ[i]? with
  | some (some (.ins a C' fs)) => C' = C ∧ fs.length < 900 ∧ q ρ (D.ex ρ) fun x => D.nx (ρ.set i (some (.ins a C (putP f x fs))))
  | _ => False) := rfl
theorem qForL_eq (i : Nat) (qi : QE) (q : QS) (D : QD) (ρ : PSt) : qForL i qi q D ρ = (qi ρ (D.ex ρ) fun x => match x with
  | .lst xs => qLoop i q D xs ρ
  | _ => False) := rfl
theorem qForT_eq (i : Nat) (qi : QE) (q : QS) (D : QD) (ρ : PSt) : qForT i qi q D ρ = (qi ρ (D.ex ρ) fun x => match x with
  | .tup xs => qLoop i q D xs ρ
  | _ => False) := rfl
theorem qForR1_eq (i : Nat) (qa : QA) (q : QS) (D : QD) (ρ : PSt) : qForR1 i qa q D ρ = (qa ρ (D.ex ρ) fun xs => match xs with
  | [.int n] => -(2 ^ 62) ≤ n ∧ n < 2 ^ 62 ∧ qLoop i q D (rangeP 0 n.toNat) ρ
  | _ => False) := rfl
theorem qForR2_eq (i : Nat) (qa : QA) (q : QS) (D : QD) (ρ : PSt) : qForR2 i qa q D ρ = (qa ρ (D.ex ρ) fun xs => match xs with
  | [.int lo, .int hi] => (-(2 ^ 62) ≤ lo ∧ lo < 2 ^ 62 ∧ -(2 ^ 62) ≤ hi ∧ hi < 2 ^ 62) ∧ qLoop i q D (rangeP lo (hi - lo).toNat) ρ
  | _ => False) := rfl
theorem qCall_eq (P : PSpec) (dps : List PV) (qa : QA) (ρ : PSt) (y : Y) (Q : PV → Prop) : qCall P dps qa ρ y Q = (qa ρ y fun xs => P (xs ++ dps) y Q) := rfl
theorem qMake_eq (C : Addr) (P : ISpec) (dps : List PV) (qa : QA) (ρ : PSt) (y : Y) (Q : PV → Prop) : qMake C P dps qa ρ y Q = (qa ρ y fun xs => P (xs ++ dps) y fun fs => Q (.obj C fs)) := rfl
theorem qMeth_eq (C : Addr) (m : Str) (P : PSpec) (dps : List PV) (qo : QE) (qa : QA) (ρ : PSt) (y : Y) (Q : PV → Prop) : qMeth C m P dps qo qa ρ y Q = (qo ρ y fun x => match x with
  | .obj C' fs => C' = C ∧ fs.lookup m = none ∧ qa ρ y fun xs => P (.obj C' fs :: (xs ++ dps)) y Q
  | _ => False) := rfl
theorem qProp_eq (C : Addr) (P : PSpec) (qo : QE) (ρ : PSt) (y : Y) (Q : PV → Prop) : qProp C P qo ρ y Q = (qo ρ y fun x => match x with
  | .obj C' fs => C' = C ∧ P [.obj C' fs] (fun _ => False) Q
  | _ => False) := rfl
theorem qCB_eq (r : Q1) (qa : QA) (ρ : PSt) (y : Y) (Q : PV → Prop) : qCB r qa ρ y Q = (qa ρ y fun xs => r xs Q) := rfl
theorem cAbs_eq  (xs : List PV) (Q : PV → Prop) : cAbs  xs Q = (match xs with
  | [.int i] => Q (.int (if i < 0 then -i else i))
  | _ => False) := rfl
theorem cInt_eq  (xs : List PV) (Q : PV → Prop) : cInt  xs Q = (match xs with
  | [.int i] => Q (.int i)
  | [.bl b] => Q (.int (if b then 1 else 0))
  | _ => False) := rfl
theorem cGcd_eq  (xs : List PV) (Q : PV → Prop) : cGcd  xs Q = (match xs with
  | [.int i, .int j] => Q (.int ((Nat.gcd i.natAbs j.natAbs : Nat) : Int))
  | _ => False) := rfl
theorem cLen_eq  (xs : List PV) (Q : PV → Prop) : cLen  xs Q = (match xs with
  | [.lst ys] => Q (.int ys.length)
  | [.tup ys] => Q (.int ys.length)
  | _ => False) := rfl
theorem cLenS_eq  (xs : List PV) (Q : PV → Prop) : cLenS  xs Q = (match xs with
  | [.str z] => z.length ≤ 100000 ∧ Q (.int z.length)
  | _ => False) := rfl
theorem qBits_eq (q : QE) (ρ : PSt) (y : Y) (Q : PV → Prop) : qBits q ρ y Q = (q ρ y fun x => match x with
  | .int i => Q (.int (Builtin.Int.intBits i : Nat))
  | _ => False) := rfl
theorem qIsi_eq (r : PV → Option Bool) (q : QE) (ρ : PSt) (y : Y) (Q : PV → Prop) : qIsi r q ρ y Q = (q ρ y fun x => match r x with
  | some b => Q (.bl b)
  | none => False) := rfl
theorem qBin_eq (C : Addr) (P : PSpec) (qa qb : QE) (ρ : PSt) (y : Y) (Q : PV → Prop) : qBin C P qa qb ρ y Q = (qa ρ y fun x => qb ρ y fun z => match x, z with
  | .obj C1 fs, .obj C2 gs => C1 = C ∧ C2 = C ∧ P [.obj C1 fs, .obj C2 gs] y Q
  | _, _ => False) := rfl
theorem qUna_eq (C : Addr) (P : PSpec) (qa : QE) (ρ : PSt) (y : Y) (Q : PV → Prop) : qUna C P qa ρ y Q = (qa ρ y fun x => match x with
  | .obj C1 fs => C1 = C ∧ P [.obj C1 fs] (fun _ => False) Q
  | _ => False) := rfl
theorem cAbsO_eq (C : Addr) (P : PSpec) (xs : List PV) (Q : PV → Prop) : cAbsO C P xs Q = (match xs with
  | [.obj C1 fs] => C1 = C ∧ P [.obj C1 fs] (fun _ => False) Q
  | _ => False) := rfl
theorem qEqO_eq (C : Addr) (nf : PV → Bool) (neg : Bool) (P : PSpec) (qa qb : QE) (ρ : PSt) (y : Y) (Q : PV → Prop) : qEqO C nf neg P qa qb ρ y Q = (qa ρ y fun x => qb ρ y fun z => match x with
  | .obj C1 fs => C1 = C ∧ nf z = true ∧ P [.obj C1 fs, z] (fun _ => False) fun r => match r with
    | .bl k => Q (.bl (neg ^^ k))
    | _ => False
  | _ => False) := rfl
theorem qRaise_eq (C : Addr) (n : Nat) (Fp : List PV → List (Str × PV)) (qa : QA) (D : QD) (ρ : PSt) : qRaise C n Fp qa D ρ = (qa ρ (D.ex ρ) fun xs => xs.length = n ∧ D.ex ρ ⟨C, Fp xs⟩) := rfl
theorem qTry_eq (r : Addr → Option Bool) (i : Nat) (qb : QS) (qs : Addr → Value → Option Addr → QS) (D : QD) (ρ : PSt) : qTry r i qb qs D ρ = (qb (tryD r i qs D) ρ) := rfl
theorem qXi_eq (a : Addr) (cls : Value) (d : Option Addr) (i : Nat) (r : Addr → Option Bool) (ρ : PSt) (u0 : Y) (Q : PV → Prop) : qXi a cls d i r ρ u0 Q = (match ρ[i]? with
  | some (some (.exc a' d' C fs)) => a' = a ∧ cls = .ref C ∧ d = some d' ∧ (match r C with
    | some b => Q (.bl b)
    | none => False)
  | _ => False) := rfl
theorem qLenO_eq (i : Nat) (ρ : PSt) (u0 : Y) (Q : PV → Prop) : qLenO i ρ u0 Q = (match ρ[i]? with
  | some (some (.own xs)) => Q (.int xs.length)
  | _ => False) := rfl
theorem qForR3_eq (i : Nat) (qa : QA) (q : QS) (D : QD) (ρ : PSt) : qForR3 i qa q D ρ = (qa ρ (D.ex ρ) fun xs => match xs with
  | [.int lo, .int hi, .int c] => ∃ n, RgC lo hi c n ∧ qLoop i q D (rangeC lo c n) ρ
  | _ => False) := rfl
theorem ex_some {α : Type} {o : Option α} {P : α → Prop} : (∃ u, o = some u ∧ P u) = (match o with
  | some u => P u
  | none => False) := by
  cases o with
  | none => exact propext ⟨fun ⟨_, h, _⟩ => (nomatch h), False.elim⟩
  | some u => exact propext ⟨fun ⟨_, h, p⟩ => by cases h; exact p, fun p => ⟨u, rfl, p⟩⟩
theorem ex_s {α : Type} {u : α} {P : α → Prop} : (∃ v, some u = some v ∧ P v) = P u := propext ⟨fun ⟨_, h, p⟩ => by cases h; exact p, fun p => ⟨u, rfl, p⟩⟩
theorem ex_n {α : Type} {P : α → Prop} : (∃ v, none = some v ∧ P v) = False := propext ⟨fun ⟨_, h, _⟩ => (nomatch h), False.elim⟩
theorem qIx_l (xs : List PV) (i : Int) (Q : PV → Prop) : qIx (.lst xs) (.int i) Q = (match atI xs i with
  | some u => Q u
  | none => False) := by
  show (∃ u, atI xs i = some u ∧ Q u) = _
  cases atI xs i
  · exact ex_n
  · exact ex_s
theorem qIx_t (xs : List PV) (i : Int) (Q : PV → Prop) : qIx (.tup xs) (.int i) Q = (match atI xs i with
  | some u => Q u
  | none => False) := by
  show (∃ u, atI xs i = some u ∧ Q u) = _
  cases atI xs i
  · exact ex_n
  · exact ex_s
theorem qFld_eq (C : Addr) (f : Str) (qo : QE) (ρ : PSt) (y : Y) (Q : PV → Prop) : qFld C f qo ρ y Q = qo ρ y (fun x => match x with
  | .obj C' fs => C' = C ∧ (match fs.lookup f with
    | some u => Q u
    | none => False)
  | _ => False) := by
  refine congrArg (qo ρ y) (funext fun x => ?_)
  cases x <;> try rfl
  rename_i C' fs
  refine congrArg (And (C' = C)) ?_
  cases fs.lookup f
  · exact ex_n
  · exact ex_s
theorem qXf_eq (a : Addr) (cls : Value) (d : Option Addr) (i : Nat) (ok : Addr → Bool) (f : Str) (ρ : PSt) (y : Y) (Q : PV → Prop) : qXf a cls d i ok f ρ y Q = (match ρ[i]? with
  | some (some (.exc a' d' C fs)) => a' = a ∧ cls = .ref C ∧ d = some d' ∧ ok C = true ∧ (match fs.lookup f with
    | some u => Q u
    | none => False)
  | _ => False) := by
  unfold qXf
  cases ρ[i]? with
  | none => rfl
  | some o =>
    cases o with
    | none => rfl
    | some s =>
      cases s <;> try rfl
      rename_i a' d' C fs
      refine congrArg (And (a' = a)) (congrArg (And (cls = .ref C)) (congrArg (And (d = some d')) (congrArg (And (ok C = true)) ?_)))
      cases fs.lookup f
      · exact ex_n
      · exact ex_s
theorem qSetIx_eq (i : Nat) (qk q : QE) (D : QD) (ρ : PSt) : qSetIx i qk q D ρ = (match ρ[i]? with
  | some (some (.own xs)) => q ρ (D.ex ρ) fun x => qk ρ (D.ex ρ) fun k => match k with
    | .int k => (match ixN xs.length k with
      | some j => D.nx (ρ.set i (some (.own (xs.set j x))))
      | none => False)
    | _ => False
  | _ => False) := by
  unfold qSetIx
  cases ρ[i]? with
  | none => rfl
  | some o =>
    cases o with
    | none => rfl
    | some s =>
      cases s <;> try rfl
      rename_i xs
      refine congrArg (q ρ (D.ex ρ)) (funext fun x => congrArg (qk ρ (D.ex ρ)) (funext fun k => ?_))
      cases k <;> try rfl
      rename_i k
      dsimp only
      cases ixN xs.length k
      · exact ex_n
      · exact ex_s
theorem qIxO_eq (i : Nat) (qk : QE) (ρ : PSt) (y : Y) (Q : PV → Prop) : qIxO i qk ρ y Q = (match ρ[i]? with
  | some (some (.own xs)) => qk ρ y fun k => match k with
    | .int k => (match atI xs k with
      | some u => Q u
      | none => False)
    | _ => False
  | _ => False) := by
  unfold qIxO
  cases ρ[i]? with
  | none => rfl
  | some o =>
    cases o with
    | none => rfl
    | some s =>
      cases s <;> try rfl
      rename_i xs
      refine congrArg (qk ρ y) (funext fun k => ?_)
      cases k <;> try rfl
      rename_i k
      dsimp only
      cases atI xs k
      · exact ex_n
      · exact ex_s
theorem qEqD_eq (neg : Bool) (x z : PV) (Q : PV → Prop) : qEqD neg x z Q = (match toD x, toD z with
  | some d, some e => SeqAt.shaped d = true ∧ SeqAt.shaped e = true ∧ Q (.bl (neg ^^ PyData.eqv d e))
  | _, _ => False) := by
  unfold qEqD
  cases h1 : toD x <;> cases h2 : toD z <;> simp
theorem tryD_nx (r : Addr → Option Bool) (i : Nat) (qs : Addr → Value → Option Addr → QS) (D : QD) : (tryD r i qs D).nx = D.nx := rfl
theorem tryD_rt (r : Addr → Option Bool) (i : Nat) (qs : Addr → Value → Option Addr → QS) (D : QD) : (tryD r i qs D).rt = D.rt := rfl
theorem tryD_bk (r : Addr → Option Bool) (i : Nat) (qs : Addr → Value → Option Addr → QS) (D : QD) : (tryD r i qs D).bk = D.bk := rfl
theorem tryD_ct (r : Addr → Option Bool) (i : Nat) (qs : Addr → Value → Option Addr → QS) (D : QD) : (tryD r i qs D).ct = D.ct := rfl
theorem tryD_ex (r : Addr → Option Bool) (i : Nat) (qs : Addr → Value → Option Addr → QS) (D : QD) (ρ : PSt) (p : PX) : (tryD r i qs D).ex ρ p = (match r p.C with
  | some true => ∀ a d, qs a (.ref p.C) (some d) { nx := fun ρ2 => D.nx (ρ2.set i none), rt := D.rt, bk := fun ρ2 => D.bk (ρ2.set i none), ct := fun ρ2 => D.ct (ρ2.set i none), ex := fun _ _ => False } (ρ.set i (some (.exc a d p.C p.fs)))
  | some false => D.ex ρ p
  | none => False) := by
  show (∃ b, _) = _
  rw [ex_some]
  cases h : r p.C with
  | none => rfl
  | some b => cases b <;> simp
theorem endsP_nx (y : Y) (Q : PV → Prop) (ρ : PSt) : (endsP y Q).nx ρ = Q .non := rfl
theorem endsP_rt (y : Y) (Q : PV → Prop) : (endsP y Q).rt = Q := rfl
theorem endsP_ex (y : Y) (Q : PV → Prop) (ρ : PSt) : (endsP y Q).ex ρ = y := rfl
theorem endsI_nx (y : Y) (a C : Addr) (Q : List (Str × PV) → Prop) (ρ : PSt) : (endsI y a C Q).nx ρ = (match ρ[0]? with
  | some (some (Sl.ins a' C' fs)) => a' = a ∧ C' = C ∧ Q fs
  | _ => False) := by
  show (∃ fs, ρ[0]? = some (some (Sl.ins a C fs)) ∧ Q fs) = _
  cases ρ[0]? with
  | none => exact propext ⟨fun ⟨_, h, _⟩ => (nomatch h), False.elim⟩
  | some o =>
    cases o with
    | none => exact propext ⟨fun ⟨_, h, _⟩ => (nomatch h), False.elim⟩
    | some s =>
      cases s <;> try exact propext ⟨fun ⟨_, h, _⟩ => (nomatch h), False.elim⟩
      rename_i a' C' fs
      refine propext ⟨?_, ?_⟩
      · rintro ⟨fs', h, q⟩
        cases h
        exact ⟨rfl, rfl, q⟩
      · rintro ⟨rfl, rfl, q⟩
        exact ⟨_, rfl, q⟩
theorem endsI_rt (y : Y) (a C : Addr) (Q : List (Str × PV) → Prop) (v : PV) : (endsI y a C Q).rt v = False := rfl
theorem endsI_ex (y : Y) (a C : Addr) (Q : List (Str × PV) → Prop) (ρ : PSt) : (endsI y a C Q).ex ρ = y := rfl
end QL

set_option maxHeartbeats 2000000
namespace QL
open PySem PySem.Spec PyProof.Rows L2
/-! ### what an iterator gives, as pure items -/
structure Itrs (K : PySem.W.Frag) (J : It) (xs : List PV) (G0 : Hp) : Prop where
  stop : ∀ i G H, Same G0 G → Same G H → xs.length ≤ i → J.stop i H
  go : ∀ i G H, Same G0 G → Same G H → i < xs.length → J.go i H
  yld : ∀ i x G H v H', Same G0 G → Same G H → xs[i]? = some x → J.yld i H v H' → ∃ G', Step G H G' H' ∧ Rep K G' x v
section
variable {K : PySem.W.Frag} {G0 : Hp} {a b : Addr} {vs ws : List V} {xs ys : List PV}
theorem itrs_list (h : SqL K G0 a vs) (r : Reps K G0 xs vs) : Itrs K (Itl K a) xs G0 where
  stop := fun i G H g0 g hi => ⟨vs, g.seq (g0.seq h), by rw [← r.length]; exact hi⟩
  go := fun i G H g0 g hi => by
    have hi' : i < vs.length := by rw [← r.length]; exact hi
    exact ⟨vs, vs[i], g.seq (g0.seq h), List.getElem?_eq_getElem hi'⟩
  yld := fun i x G H v H' g0 g hx y => by
    obtain ⟨rfl, y⟩ := y
    obtain ⟨w, e, rw'⟩ := r.get hx
    rw [y vs (g.seq (g0.seq h))] at e
    cases e
    exact ⟨G, .refl g, rw'.mono g0⟩
theorem itrs_tup (h : SqT K G0 a vs) (r : Reps K G0 xs vs) : Itrs K (Itt K a) xs G0 where
  stop := fun i G H g0 g hi => ⟨vs, Same.sqT g (Same.sqT g0 h), by rw [← r.length]; exact hi⟩
  go := fun i G H g0 g hi => by
    have hi' : i < vs.length := by rw [← r.length]; exact hi
    exact ⟨vs, vs[i], Same.sqT g (Same.sqT g0 h), List.getElem?_eq_getElem hi'⟩
  yld := fun i x G H v H' g0 g hx y => by
    obtain ⟨rfl, y⟩ := y
    obtain ⟨w, e, rw'⟩ := r.get hx
    rw [y vs (Same.sqT g (Same.sqT g0 h))] at e
    cases e
    exact ⟨G, .refl g, rw'.mono g0⟩
theorem itrs_range (lo : Int) (n : Nat) : Itrs K (Itr lo n) (rangeP lo n) G0 where
  stop := fun i G H g0 g hi => by rw [rangeP_len] at hi; exact hi
  go := fun i G H g0 g hi => by rw [rangeP_len] at hi; exact hi
  yld := fun i x G H v H' g0 g hx y => by
    obtain ⟨rfl, rfl⟩ := y
    obtain ⟨_, rfl⟩ := rangeP_at hx
    exact ⟨G, .refl g, .int _⟩
theorem itrs_rangeC (lo c : Int) (n : Nat) : Itrs K (Itc lo c n) (rangeC lo c n) G0 where
  stop := fun i G H g0 g hi => by rw [rangeC_len] at hi; exact hi
  go := fun i G H g0 g hi => by rw [rangeC_len] at hi; exact hi
  yld := fun i x G H v H' g0 g hx y => by
    obtain ⟨rfl, rfl⟩ := y
    obtain ⟨_, rfl⟩ := rangeC_at hx
    exact ⟨G, .refl g, .int _⟩
/-- the pairs -/
def zipP (xs ys : List PV) : List PV := List.zipWith (fun x y => PV.tup [x, y]) xs ys
theorem zipP_len : (zipP xs ys).length = min xs.length ys.length := List.length_zipWith
theorem zipP_get {i : Nat} {x : PV} (h : (zipP xs ys)[i]? = some x) : ∃ u v, xs[i]? = some u ∧ ys[i]? = some v ∧ x = .tup [u, v] := by
  unfold zipP at h
  rw [List.getElem?_zipWith] at h
  cases h1 : xs[i]? with
  | none => rw [h1] at h; simp at h
  | some u =>
    cases h2 : ys[i]? with
    | none => rw [h1, h2] at h; simp at h
    | some v =>
      rw [h1, h2] at h
      exact ⟨u, v, rfl, rfl, (Option.some.inj h).symm⟩
theorem itrs_zip (h : SqL K G0 a vs) (r : Reps K G0 xs vs) (h' : SqL K G0 b ws) (r' : Reps K G0 ys ws) : Itrs K (Itz K a b) (zipP xs ys) G0 where
  stop := fun i G H g0 g hi => by
    rw [zipP_len] at hi
    refine ⟨vs, ws, g.seq (g0.seq h), g.seq (g0.seq h'), ?_⟩
    rw [← r.length, ← r'.length]
    omega
  go := fun i G H g0 g hi => by
    rw [zipP_len] at hi
    have h1 : i < vs.length := by rw [← r.length]; omega
    have h2 : i < ws.length := by rw [← r'.length]; omega
    exact ⟨vs, ws, vs[i], ws[i], g.seq (g0.seq h), g.seq (g0.seq h'), List.getElem?_eq_getElem h1, List.getElem?_eq_getElem h2⟩
  yld := fun i x G H v H' g0 g hx y => by
    obtain ⟨T, p, q, rfl, hT, rfl, y1, y2⟩ := y
    obtain ⟨u1, u2, e1, e2, rfl⟩ := zipP_get hx
    obtain ⟨w1, f1, r1⟩ := r.get e1
    obtain ⟨w2, f2, r2⟩ := r'.get e2
    rw [y1 vs (g.seq (g0.seq h))] at f1
    rw [y2 ws (g.seq (g0.seq h'))] at f2
    cases f1
    cases f2
    have st := Step.alloc (o := .tup [p, q]) g hT
    exact ⟨_, st, .tup (.inl (.inl upd_same)) (.cons ((r1.mono g0).mono st.gg) (.cons ((r2.mono g0).mono st.gg) .nil))⟩
theorem itrs_zipT (h : SqT K G0 a vs) (r : Reps K G0 xs vs) (h' : SqT K G0 b ws) (r' : Reps K G0 ys ws) : Itrs K (RZ.ItzT K a b) (zipP xs ys) G0 where
  stop := fun i G H g0 g hi => by
    rw [zipP_len] at hi
    refine ⟨vs, ws, Same.sqT g (Same.sqT g0 h), Same.sqT g (Same.sqT g0 h'), ?_⟩
    rw [← r.length, ← r'.length]
    omega
  go := fun i G H g0 g hi => by
    rw [zipP_len] at hi
    have h1 : i < vs.length := by rw [← r.length]; omega
    have h2 : i < ws.length := by rw [← r'.length]; omega
    exact ⟨vs, ws, vs[i], ws[i], Same.sqT g (Same.sqT g0 h), Same.sqT g (Same.sqT g0 h'), List.getElem?_eq_getElem h1, List.getElem?_eq_getElem h2⟩
  yld := fun i x G H v H' g0 g hx y => by
    obtain ⟨T, p, q, rfl, hT, rfl, y1, y2⟩ := y
    obtain ⟨u1, u2, e1, e2, rfl⟩ := zipP_get hx
    obtain ⟨w1, f1, r1⟩ := r.get e1
    obtain ⟨w2, f2, r2⟩ := r'.get e2
    rw [y1 vs (Same.sqT g (Same.sqT g0 h))] at f1
    rw [y2 ws (Same.sqT g (Same.sqT g0 h'))] at f2
    cases f1
    cases f2
    have st := Step.alloc (o := .tup [p, q]) g hT
    exact ⟨_, st, .tup (.inl (.inl upd_same)) (.cons ((r1.mono g0).mono st.gg) (.cons ((r2.mono g0).mono st.gg) .nil))⟩
def enumP (xs : List PV) : List PV := zipP ((List.range xs.length).map fun (k : Nat) => PV.int k) xs
theorem enumP_get {i : Nat} {x : PV} (h : (enumP xs)[i]? = some x) : ∃ v, xs[i]? = some v ∧ x = .tup [.int (i : Nat), v] := by
  obtain ⟨u, v, h1, h2, rfl⟩ := zipP_get h
  obtain ⟨j, h3, rfl⟩ := map_at h1
  have hi : i < xs.length := (List.getElem?_eq_some_iff.mp h2).1
  rw [List.getElem?_range hi] at h3
  cases h3
  exact ⟨v, h2, rfl⟩
theorem enumP_len : (enumP xs).length = xs.length := by
  unfold enumP
  rw [zipP_len]
  simp
theorem itrs_enum (h : SqL K G0 a vs) (r : Reps K G0 xs vs) : Itrs K (Ite K a) (enumP xs) G0 where
  stop := fun i G H g0 g hi => by
    rw [enumP_len] at hi
    exact ⟨vs, g.seq (g0.seq h), by rw [← r.length]; exact hi⟩
  go := fun i G H g0 g hi => by
    rw [enumP_len] at hi
    have h1 : i < vs.length := by rw [← r.length]; exact hi
    exact ⟨vs, vs[i], g.seq (g0.seq h), List.getElem?_eq_getElem h1⟩
  yld := fun i x G H v H' g0 g hx y => by
    obtain ⟨T, p, rfl, hT, rfl, y1⟩ := y
    obtain ⟨u1, e1, rfl⟩ := enumP_get hx
    obtain ⟨w1, f1, r1⟩ := r.get e1
    rw [y1 vs (g.seq (g0.seq h))] at f1
    cases f1
    have st := Step.alloc (o := .tup [.int (i : Nat), p]) g hT
    exact ⟨_, st, .tup (.inl (.inl upd_same)) (.cons (.int _) (.cons ((r1.mono g0).mono st.gg) .nil))⟩
theorem rev_get {α : Type} {l : List α} {i : Nat} (hi : i < l.length) : l.reverse[i]? = l[l.length - 1 - i]? := by
  rw [List.getElem?_reverse hi]
theorem itrs_rev (h : SqL K G0 a vs) (r : Reps K G0 xs vs) : Itrs K (Itv K a vs.length) xs.reverse G0 where
  stop := fun i G H g0 g hi => by
    rw [List.length_reverse, r.length] at hi
    exact hi
  go := fun i G H g0 g hi => by
    rw [List.length_reverse, r.length] at hi
    have h1 : vs.length - 1 - i < vs.length := by omega
    exact ⟨hi, vs, vs[vs.length - 1 - i], g.seq (g0.seq h), List.getElem?_eq_getElem h1⟩
  yld := fun i x G H v H' g0 g hx y => by
    obtain ⟨rfl, y⟩ := y
    have hi : i < xs.length := by
      have := (List.getElem?_eq_some_iff.mp hx).1
      rw [List.length_reverse] at this
      exact this
    rw [rev_get hi, r.length] at hx
    obtain ⟨w, e, rw'⟩ := r.get hx
    rw [y vs (g.seq (g0.seq h))] at e
    cases e
    exact ⟨G, .refl g, rw'.mono g0⟩
end
/-! ### the iterables' judgement -/
abbrev QI := PSt → Y → (List PV → Prop) → Prop
def tIJ (K : PySem.W.Frag) (W : WX) (q : QI) : TI := fun σ H R => ∃ (Gb Hb : Hp) (ρ : PSt) (G : Hp) (y : Y) (Q : List PV → Prop), RelS K Gb Hb ρ σ G H ∧ ExOk K W σ G H y ∧ q ρ y Q ∧ ∀ xs J G' H', Step G H G' H' → Itrs K J xs G' → Q xs → R J H'
abbrev JI (X : Cx) (W : WX) (tg e : Expr) (q : QI) : Prop := PI X tg e (tIJ X.K W q)
theorem PI.imp {X : Cx} {tg e : Expr} {w w' : TI} (h : PI X tg e w) (i : ∀ σ H R, w' σ H R → w σ H R) : PI X tg e w' := ⟨fun pins s σ H R I q => h.run pins s σ H R I (i σ H R q)⟩
def qIL (q : QE) : QI := fun ρ y Q => q ρ y fun x => match x with
  | .lst xs => Q xs
  | _ => False
def qIT (q : QE) : QI := fun ρ y Q => q ρ y fun x => match x with
  | .tup xs => Q xs
  | _ => False
def qIR1 (q : QA) : QI := fun ρ y Q => q ρ y fun xs => match xs with
  | [.int n] => -(2 ^ 62) ≤ n ∧ n < 2 ^ 62 ∧ Q (rangeP 0 n.toNat)
  | _ => False
def qIR2 (q : QA) : QI := fun ρ y Q => q ρ y fun xs => match xs with
  | [.int lo, .int hi] => (-(2 ^ 62) ≤ lo ∧ lo < 2 ^ 62 ∧ -(2 ^ 62) ≤ hi ∧ hi < 2 ^ 62) ∧ Q (rangeP lo (hi - lo).toNat)
  | _ => False
def qIR3 (q : QA) : QI := fun ρ y Q => q ρ y fun xs => match xs with
  | [.int lo, .int hi, .int c] => ∃ n, RgC lo hi c n ∧ Q (rangeC lo c n)
  | _ => False
def qIZ (q : QA) : QI := fun ρ y Q => q ρ y fun xs => match xs with
  | [.lst us, .lst vs] => Q (zipP us vs)
  | [.tup us, .tup vs] => Q (zipP us vs)
  | _ => False
def qIE (q : QA) : QI := fun ρ y Q => q ρ y fun xs => match xs with
  | [.lst us] => Q (enumP us)
  | _ => False
def qIRev (q : QA) : QI := fun ρ y Q => q ρ y fun xs => match xs with
  | [.lst us] => Q us.reverse
  | _ => False
section
variable {X : Cx} {W : WX} {tg e e2 e3 : Expr} {q : QE} {qa : QA} {p pos : Pos}
theorem ji_list (h : JE X W e q) : JI X W tg e (qIL q) := by
  refine PI.imp (pi_list h) fun σ H R' ⟨Gb, Hb, ρ, G, y, Q, R, E, q, k⟩ => ?_
  refine ⟨Gb, Hb, ρ, G, y, _, R, E, q, fun x v G1 H1 s1 r1 q1 => ?_⟩
  split at q1
  · cases r1 with
    | @lst adr vs _ hq hr => exact ⟨adr, rfl, ⟨vs, s1.gh.seq hq⟩, k _ _ G1 H1 s1 (itrs_list hq hr) q1⟩
  · exact q1.elim
theorem ji_tup (h : JE X W e q) : JI X W tg e (qIT q) := by
  refine PI.imp (pi_tup h) fun σ H R' ⟨Gb, Hb, ρ, G, y, Q, R, E, q, k⟩ => ?_
  refine ⟨Gb, Hb, ρ, G, y, _, R, E, q, fun x v G1 H1 s1 r1 q1 => ?_⟩
  split at q1
  · cases r1 with
    | @tup adr vs _ hq hr => exact ⟨adr, rfl, ⟨vs, Same.sqT s1.gh hq⟩, k _ _ G1 H1 s1 (itrs_tup hq hr) q1⟩
  · exact q1.elim
theorem ji_range1 (hm : X.mg "range" = none) (h : JA X W [e] qa) (hg : Gl X "range" := by rfl) (hs2 : starEach [e] X.env = [(false, eval e X.env)] := by rfl) : JI X W tg (.Call (.Name "range" p) [e] [] pos) (qIR1 qa) := by
  refine PI.imp (pi_range1 hg hm h hs2) fun σ H R' ⟨Gb, Hb, ρ, G, y, Q, R, E, q, k⟩ => ?_
  refine ⟨Gb, Hb, ρ, G, y, _, R, E, q, fun xs vs G1 H1 s1 r1 q1 => ?_⟩
  split at q1
  · cases r1 with
    | cons r rr =>
      cases rr
      cases r
      exact ⟨_, rfl, q1.1, q1.2.1, k _ _ G1 H1 s1 (itrs_range _ _) q1.2.2⟩
  · exact q1.elim
theorem ji_range2 (hm : X.mg "range" = none) (h : JA X W [e, e2] qa) (hg : Gl X "range" := by rfl) (hs2 : starEach [e, e2] X.env = [(false, eval e X.env), (false, eval e2 X.env)] := by rfl) (hs3 : starEach [e2] X.env = [(false, eval e2 X.env)] := by rfl) : JI X W tg (.Call (.Name "range" p) [e, e2] [] pos) (qIR2 qa) := by
  refine PI.imp (pi_range2 hg hm h hs2 hs3) fun σ H R' ⟨Gb, Hb, ρ, G, y, Q, R, E, q, k⟩ => ?_
  refine ⟨Gb, Hb, ρ, G, y, _, R, E, q, fun xs vs G1 H1 s1 r1 q1 => ?_⟩
  split at q1
  · cases r1 with
    | cons r rr =>
      cases rr with
      | cons r' rr =>
        cases rr
        cases r
        cases r'
        exact ⟨_, _, rfl, q1.1, k _ _ G1 H1 s1 (itrs_range _ _) q1.2⟩
  · exact q1.elim
theorem ji_range3 (hm : X.mg "range" = none) (h : JA X W [e, e2, e3] qa) (hg : Gl X "range" := by rfl) (hs : starEach [e, e2, e3] X.env = (false, eval e X.env) :: starEach [e2, e3] X.env := by rfl) (hpl : (backTo pos (starEach [e2, e3] X.env)).any (·.1) = false := by rfl) :
    JI X W tg (.Call (.Name "range" p) [e, e2, e3] [] pos) (qIR3 qa) := by
  refine PI.imp (pi_range3 hg hm h hs hpl) fun σ H R' ⟨Gb, Hb, ρ, G, y, Q, R, E, q, k⟩ => ?_
  refine ⟨Gb, Hb, ρ, G, y, _, R, E, q, fun xs vs G1 H1 s1 r1 q1 => ?_⟩
  split at q1
  · cases r1 with
    | cons r rr =>
      cases rr with
      | cons r' rr =>
        cases rr with
        | cons r2 rr =>
          cases rr
          cases r
          cases r'
          cases r2
          obtain ⟨n, h1, h2⟩ := q1
          exact ⟨_, _, _, n, rfl, h1, k _ _ G1 H1 s1 (itrs_rangeC _ _ _) h2⟩
  · exact q1.elim
theorem ji_zip {elts : List Expr} {kk : Nat} {tpos : Pos} (hm : X.mg "zip" = none) (h : JA X W [e, e2] qa) (hg : Gl X "zip" := by rfl) (hs : starEach [e, e2] X.env = (false, eval e X.env) :: starEach [e2] X.env := by rfl) (hpl : (backTo pos (starEach [e2] X.env)).any (·.1) = false := by rfl) :
    JI X W (.Tuple elts kk tpos) (.Call (.Name "zip" p) [e, e2] [] pos) (qIZ qa) := by
  refine PI.imp (RZ.pi_zipA hg hm h hs hpl) fun σ H R' ⟨Gb, Hb, ρ, G, y, Q, R, E, q, k⟩ => ?_
  refine ⟨Gb, Hb, ρ, G, y, _, R, E, q, fun xs vs G1 H1 s1 r1 q1 => ?_⟩
  split at q1
  · cases r1 with
    | cons r rr =>
      cases rr with
      | cons r' rr =>
        cases rr
        cases r with
        | @lst a1 v1 _ hq hr =>
          cases r' with
          | @lst a2 v2 _ hq' hr' => exact ⟨a1, a2, v1, v2, rfl, .inl ⟨s1.gh.seq hq, s1.gh.seq hq', k _ _ G1 H1 s1 (itrs_zip hq hr hq' hr') q1⟩⟩
  · cases r1 with
    | cons r rr =>
      cases rr with
      | cons r' rr =>
        cases rr
        cases r with
        | @tup a1 v1 _ hq hr =>
          cases r' with
          | @tup a2 v2 _ hq' hr' => exact ⟨a1, a2, v1, v2, rfl, .inr ⟨Same.sqT s1.gh hq, Same.sqT s1.gh hq', k _ _ G1 H1 s1 (itrs_zipT hq hr hq' hr') q1⟩⟩
  · exact q1.elim
theorem ji_enum {elts : List Expr} {kk : Nat} {tpos : Pos} (hm : X.mg "enumerate" = none) (h : JA X W [e] qa) (hg : Gl X "enumerate" := by rfl) (hs : starEach [e] X.env = [(false, eval e X.env)] := by rfl) :
    JI X W (.Tuple elts kk tpos) (.Call (.Name "enumerate" p) [e] [] pos) (qIE qa) := by
  refine PI.imp (pi_enum hg hm h hs) fun σ H R' ⟨Gb, Hb, ρ, G, y, Q, R, E, q, k⟩ => ?_
  refine ⟨Gb, Hb, ρ, G, y, _, R, E, q, fun xs vs G1 H1 s1 r1 q1 => ?_⟩
  split at q1
  · cases r1 with
    | cons r rr =>
      cases rr
      cases r with
      | @lst a1 v1 _ hq hr => exact ⟨a1, v1, rfl, s1.gh.seq hq, k _ _ G1 H1 s1 (itrs_enum hq hr) q1⟩
  · exact q1.elim
theorem ji_rev (hm : X.mg "reversed" = none) (h : JA X W [e] qa) (hg : Gl X "reversed" := by rfl) (hs : starEach [e] X.env = [(false, eval e X.env)] := by rfl) :
    JI X W tg (.Call (.Name "reversed" p) [e] [] pos) (qIRev qa) := by
  refine PI.imp (pi_reversed hg hm h hs) fun σ H R' ⟨Gb, Hb, ρ, G, y, Q, R, E, q, k⟩ => ?_
  refine ⟨Gb, Hb, ρ, G, y, _, R, E, q, fun xs vs G1 H1 s1 r1 q1 => ?_⟩
  split at q1
  · cases r1 with
    | cons r rr =>
      cases rr
      cases r with
      | @lst a1 v1 _ hq hr => exact ⟨a1, v1, rfl, s1.gh.seq hq, k _ _ G1 H1 s1 (itrs_rev hq hr) q1⟩
  · exact q1.elim
end
/-! ### targets -/
def tName (i : Nat) : PV → PSt → (PSt → Prop) → Prop := fun x ρ k => k (ρ.set i (some (.pv x)))
def tTup (is : List Nat) : PV → PSt → (PSt → Prop) → Prop := fun x ρ k => match x with
  | .tup ys => ys.length = is.length ∧ k (setAll ρ is ys)
  | _ => False
/-- the target g does what t says -/
def TgOk (K : PySem.W.Frag) (g : TG) (t : PV → PSt → (PSt → Prop) → Prop) (vs : List Nat) : Prop := ∀ (Gb Hb : Hp) (ρ : PSt) (σ : L2.St) (G H : Hp) (x : PV) (v : V) (k : PSt → Prop) (kh : L2.St → Hp → Prop), RelS K Gb Hb ρ σ G H → Rep K G x v → t x ρ k →
  (∀ ρ' σ', RelS K Gb Hb ρ' σ' G H → k ρ' → σ'.length = σ.length → (∀ j, j ∉ vs → σ'[j]? = σ[j]?) → kh σ' H) → g v σ H kh
theorem tg_name {K : PySem.W.Frag} (i : Nat) : TgOk K (gName i) (tName i) [i] := fun Gb Hb ρ σ G H x v k kh R r q kk =>
  kk _ _ (R.set i r) q (List.length_set) fun j hj => by
    rw [List.getElem?_set_ne]
    intro e
    subst e
    exact hj (List.mem_singleton.mpr rfl)
theorem gnames_ok2 {K : PySem.W.Frag} {Gb Hb G H : Hp} {Qh : L2.St → Hp → Prop} {I : PSt → Prop} (σ0 : L2.St) (all : List Nat) (k : ∀ ρ σ, RelS K Gb Hb ρ σ G H → I ρ → σ.length = σ0.length → (∀ j, j ∉ all → σ[j]? = σ0[j]?) → Qh σ H) :
    ∀ (is : List Nat) (xs : List PV) (vs : List V) (ρ : PSt) (σ : L2.St), RelS K Gb Hb ρ σ G H → Reps K G xs vs → xs.length = is.length → I (setAll ρ is xs) → σ.length = σ0.length → (∀ j, j ∉ all → σ[j]? = σ0[j]?) → (∀ i ∈ is, i ∈ all) → gNames is vs σ H Qh
  | [], [], _, ρ, σ, R, .nil, _, q, hl, hj, _ => ⟨rfl, k ρ σ R q hl hj⟩
  | i :: is, x :: xs, _, ρ, σ, R, .cons h t, l, q, hl, hj, ha => ⟨_, _, rfl, gnames_ok2 σ0 all k is xs _ _ _ (R.set i h) t (by simpa using l) q (by rw [List.length_set]; exact hl) (fun j hn => by
      rw [List.getElem?_set_ne]
      · exact hj j hn
      · intro e
        subst e
        exact hn (ha _ List.mem_cons_self)) fun j hm => ha j (List.mem_cons_of_mem _ hm)⟩
theorem tg_tup {K : PySem.W.Frag} (is : List Nat) : TgOk K (gTup K is.length (gNames is)) (tTup is) is := by
  intro Gb Hb ρ σ G H x v k kh R r q kk
  unfold tTup at q
  split at q
  · cases r with
    | tup hq r =>
      exact ⟨_, _, rfl, Same.sqT R.gh hq, by rw [← r.length]; exact q.1, gnames_ok2 σ is kk is _ _ ρ σ R r q.1 q.2 rfl (fun _ _ => rfl) fun _ h => h⟩
  · exact q.elim
/-! ### for loops over any iterable -/
/-- a loop over the items -/
def qLoopG (t : PV → PSt → (PSt → Prop) → Prop) (q : QS) (D : QD) : List PV → PSt → Prop
  | [], ρ => D.nx ρ
  | x :: xs, ρ => t x ρ fun ρ1 => q { D with nx := fun ρ' => qLoopG t q D xs ρ', ct := fun ρ' => qLoopG t q D xs ρ', bk := D.nx } ρ1
def qLoopT (is : List Nat) (q : QS) (D : QD) : List PV → PSt → Prop := qLoopG (tTup is) q D
theorem loop_name (i : Nat) (q : QS) (D : QD) : ∀ (xs : List PV) (ρ : PSt), qLoop i q D xs ρ = qLoopG (tName i) q D xs ρ
  | [], ρ => rfl
  | x :: xs, ρ => by
    show q { D with nx := fun ρ' => qLoop i q D xs ρ', ct := fun ρ' => qLoop i q D xs ρ', bk := D.nx } (ρ.set i (some (.pv x))) = _
    rw [show (fun ρ' => qLoop i q D xs ρ') = (fun ρ' => qLoopG (tName i) q D xs ρ') from funext fun ρ' => loop_name i q D xs ρ']
    rfl
def qFor (i : Nat) (qi : QI) (q : QS) : QS := fun D ρ => qi ρ (D.ex ρ) fun xs => qLoop i q D xs ρ
def qForP (is : List Nat) (qi : QI) (q : QS) : QS := fun D ρ => qi ρ (D.ex ρ) fun xs => qLoopT is q D xs ρ
theorem loopG_drop {t : PV → PSt → (PSt → Prop) → Prop} {q : QS} {D : QD} {xs : List PV} {k : Nat} {x : PV} {ρ : PSt} (h : xs[k]? = some x) (q' : qLoopG t q D (xs.drop k) ρ) :
    t x ρ fun ρ1 => q { D with nx := fun ρ' => qLoopG t q D (xs.drop (k + 1)) ρ', ct := fun ρ' => qLoopG t q D (xs.drop (k + 1)) ρ', bk := D.nx } ρ1 := by
  have hl : k < xs.length := (List.getElem?_eq_some_iff.mp h).1
  rw [List.drop_eq_getElem_cons hl] at q'
  rw [List.getElem?_eq_getElem hl] at h
  cases h
  exact q'
section
variable {X : Cx} {W : WX} {tg ie : Expr} {a : List Stmt} {pos : Pos} {qi : QI} {q : QS} {t : PV → PSt → (PSt → Prop) → Prop} {g : TG} {vs : List Nat}
theorem js_forG (hp : PassesOwn (model X.prog X.w) X.A X.env X.xe) (hc : X.calm = true) (h : JI X W tg ie qi) (hg : PG X tg g) (ok : TgOk X.K g t vs) (hb : JSs X W a q) (hs : ∀ x, foldedSetIterable ie X.env x = pure x) :
    JS X W (.For tg ie a [] pos) (fun D ρ => qi ρ (D.ex ρ) fun xs => qLoopG t q D xs ρ) := by
  refine PS.imp (ps_for hp hc h hg hb hs) fun Dh σ H ⟨Gb, Hb, ρ, G, D, R, M, q'⟩ => ?_
  refine ⟨Gb, Hb, ρ, G, D.ex ρ, _, R, M.exok R, q', fun xs J G1 H1 s1 it q1 => ?_⟩
  have R1 := R.mono s1
  have M1 := M.rebase R1.step
  refine ⟨fun k m σ' H' => m = xs.length - k ∧ k ≤ xs.length ∧ ∃ ρ' G', RelS X.K G1 (join G1 Hb) ρ' σ' G' H' ∧ qLoopG t q D (xs.drop k) ρ', ⟨xs.length, by simp, Nat.zero_le _, ρ, G1, R1.rebase, q1⟩, ?_⟩
  rintro k m σ' H' ⟨rfl, hk, ρ', G', R', q2⟩
  by_cases hl : k < xs.length
  · refine .inr ⟨it.go k G' H' R'.step.gg R'.gh hl, fun σ2 H2 => ∃ ρ2 G2, RelS X.K G1 (join G1 Hb) ρ2 σ2 G2 H2 ∧ qLoopG t q D (xs.drop (k + 1)) ρ2, fun σ2 H2 h2 => ⟨xs.length - (k + 1), by omega, rfl, hl, h2⟩, fun v H2 y => ?_⟩
    obtain ⟨G2, st, r⟩ := it.yld k xs[k] G' H' v H2 R'.step.gg R'.gh (List.getElem?_eq_getElem hl) y
    have q3 := loopG_drop (List.getElem?_eq_getElem hl) q2
    refine ok G1 (join G1 Hb) ρ' σ' G2 H2 xs[k] v _ _ (R'.mono st) r q3 fun ρ3 σ3 R3 q4 _ _ => ?_
    refine ⟨G1, join G1 Hb, ρ3, G2, { D with nx := fun ρ' => qLoopG t q D (xs.drop (k + 1)) ρ', ct := fun ρ' => qLoopG t q D (xs.drop (k + 1)) ρ', bk := D.nx }, R3, ?_, q4⟩
    exact ⟨fun ρ2 σ2 G2 H2 R2 q => ⟨ρ2, G2, R2, q⟩, M1.rt, M1.nx, fun ρ2 σ2 G2 H2 R2 q => ⟨ρ2, G2, R2, q⟩, M1.ex⟩
  · have e : k = xs.length := by omega
    subst e
    rw [List.drop_length] at q2
    exact .inl ⟨it.stop _ G' H' R'.step.gg R'.gh (Nat.le_refl _), M1.nx _ _ _ _ R' q2⟩
theorem js_for (i : Nat) {x : Str} {npos : Pos} (hp : PassesOwn (model X.prog X.w) X.A X.env X.xe) (hc : X.calm = true) (hN : X.N.Nodup) (h : JI X W (.Name x npos) ie qi) (hb : JSs X W a q) (hi : X.N[i]? = some x := by rfl)
    (hx : Loc X.env.scope x := by first | exact Or.inl rfl | exact Or.inr rfl) (hf : X.fn x = true ∨ X.env.scope.names.lookup x = some .local := by first | exact .inl rfl | exact .inr rfl)
    (hs : ∀ x, foldedSetIterable ie X.env x = pure x := by intro _; rfl) : JS X W (.For (.Name x npos) ie a [] pos) (qFor i qi q) := by
  refine PS.imp (js_forG hp hc h (pg_name hN hi hx hf) (tg_name i) hb hs) fun Dh σ H ⟨Gb, Hb, ρ, G, D, R, M, q'⟩ => ?_
  refine ⟨Gb, Hb, ρ, G, D, R, M, ?_⟩
  unfold qFor at q'
  rw [show (fun xs => qLoop i q D xs ρ) = (fun xs => qLoopG (tName i) q D xs ρ) from funext fun xs => loop_name i q D xs ρ] at q'
  exact q'
theorem js_forP (is : List Nat) {es : List Expr} {kk : Nat} {tpos : Pos} (hp : PassesOwn (model X.prog X.w) X.A X.env X.xe) (hc : X.calm = true) (h : JI X W (.Tuple es kk tpos) ie qi) (hg : PGs X es (gNames is)) (hb : JSs X W a q)
    (hn : (assignEach es X.env).length = is.length := by rfl) (hst : (assignEach es X.env).findIdx? (·.1) = none := by rfl) (hs : ∀ x, foldedSetIterable ie X.env x = pure x := by intro _; rfl) : JS X W (.For (.Tuple es kk tpos) ie a [] pos) (qForP is qi q) :=
  js_forG hp hc h (pg_tup hc hg hn hst) (tg_tup is) hb hs
end
/-! ### comprehensions -/
def wipeP (ρ : PSt) : List Nat → PSt
  | [] => ρ
  | v :: vs => (wipeP ρ vs).set v none
def qColl (t : PV → PSt → (PSt → Prop) → Prop) (qt : QT) (qe : QE) (ρ : PSt) (Q : List PV → Prop) : List PV → List PV → Prop
  | [], acc => Q acc
  | x :: xs, acc => t x ρ fun ρ1 => qt ρ1 (fun _ => False) fun b => if b = true then qe ρ1 (fun _ => False) fun v => qColl t qt qe ρ Q xs (acc ++ [v]) else qColl t qt qe ρ Q xs acc
def qYes : QT := fun _ _ Q => Q true
def qLc (t : PV → PSt → (PSt → Prop) → Prop) (vs : List Nat) (qi : QI) (qt : QT) (qe : QE) : QE := fun ρ y Q => qi ρ y fun xs => xs.length ≤ 10000 ∧ qColl t qt qe (wipeP ρ vs) (fun acc => Q (.lst acc)) xs []
theorem RelS.wiped {K : PySem.W.Frag} {Gb Hb G H : Hp} {ρ : PSt} {σ : L2.St} (r : RelS K Gb Hb ρ σ G H) : ∀ vs : List Nat, RelS K Gb Hb (wipeP ρ vs) (wipe σ vs) G H
  | [] => r
  | v :: vs => (r.wiped vs).drop v none
theorem wipe_at {σ : L2.St} {i : Nat} : ∀ {vs : List Nat}, i ∈ vs → i < σ.length → (wipe σ vs)[i]? = some none
  | v :: vs, h, hl => by
    unfold wipe
    by_cases e : v = i
    · subst e
      exact List.getElem?_set_self (by rw [wipe_length]; exact hl)
    · rw [List.getElem?_set_ne e]
      rcases List.mem_cons.mp h with h | h
      · exact absurd h.symm e
      · exact wipe_at h hl
theorem wipe_same {σ σ2 : L2.St} {vs : List Nat} (hl : σ2.length = (wipe σ vs).length) (hj : ∀ j, j ∉ vs → σ2[j]? = (wipe σ vs)[j]?) : wipe σ2 vs = wipe σ vs := by
  refine List.ext_getElem? fun j => ?_
  rw [wipe_length] at hl
  by_cases h : j ∈ vs
  · by_cases hk : j < σ.length
    · rw [wipe_at h hk, wipe_at h (by omega)]
    · rw [List.getElem?_eq_none (by rw [wipe_length]; omega), List.getElem?_eq_none (by rw [wipe_length]; omega)]
  · rw [wipe_out h, hj j h]
section
variable {K : PySem.W.Frag} {Gb Hb G H : Hp} {ρ : PSt} {σ : L2.St}
theorem get_app {α : Type} {l : List α} {x : α} {i : Nat} {y : α} (h : (l ++ [x])[i]? = some y) : (i < l.length ∧ l[i]? = some y) ∨ (i = l.length ∧ y = x) := by
  by_cases hi : i < l.length
  · rw [List.getElem?_append_left hi] at h
    exact .inl ⟨hi, h⟩
  · rw [List.getElem?_append_right (by omega)] at h
    have := (List.getElem?_eq_some_iff.mp h).1
    have e : i = l.length := by
      simp at this
      omega
    subst e
    simp at h
    exact .inr ⟨rfl, h.symm⟩
theorem app_get {α : Type} {l : List α} {x : α} {i : Nat} {y : α} (h : l[i]? = some y) : (l ++ [x])[i]? = some y := by
  rw [List.getElem?_append_left (List.getElem?_eq_some_iff.mp h).1]
  exact h
theorem RelS.ext (r : RelS K Gb Hb ρ σ G H) : RelS K Gb Hb (ρ ++ [none]) (σ ++ [none]) G H where
  step := r.step
  len := by simp [r.len]
  val := fun i x e => by
    rcases get_app e with ⟨_, e⟩ | ⟨_, e⟩
    · obtain ⟨v, h1, h2⟩ := r.val i x e
      exact ⟨v, app_get h1, h2⟩
    · cases e
  own := fun i xs e => by
    rcases get_app e with ⟨_, e⟩ | ⟨_, e⟩
    · obtain ⟨a, vs, h1, h2⟩ := r.own i xs e
      exact ⟨a, vs, app_get h1, h2⟩
    · cases e
  ins := fun i a C fs e => by
    rcases get_app e with ⟨_, e⟩ | ⟨_, e⟩
    · obtain ⟨dx, gs, h1, h2⟩ := r.ins i a C fs e
      exact ⟨dx, gs, app_get h1, h2⟩
    · cases e
  exc := fun i a d C fs e => by
    rcases get_app e with ⟨_, e⟩ | ⟨_, e⟩
    · obtain ⟨h1, h2⟩ := r.exc i a d C fs e
      exact ⟨app_get h1, h2⟩
    · cases e
  one := fun j k a C b D fs gs e1 e2 => by
    rcases get_app e1 with ⟨_, e1⟩ | ⟨_, e1⟩
    · rcases get_app e2 with ⟨_, e2⟩ | ⟨_, e2⟩
      · exact r.one j k a C b D fs gs e1 e2
      · cases e2
    · cases e1
  sep := fun j k xs ys a e1 e2 s1 s2 => by
    rcases get_app e1 with ⟨l1, e1⟩ | ⟨_, e1⟩
    · rcases get_app e2 with ⟨l2, e2⟩ | ⟨_, e2⟩
      · rw [List.getElem?_append_left (by rw [← r.len]; exact l1)] at s1
        rw [List.getElem?_append_left (by rw [← r.len]; exact l2)] at s2
        exact r.sep j k xs ys a e1 e2 s1 s2
      · cases e2
    · cases e1
theorem RelS.cut {s : Option Sl} {v : Option V} (r : RelS K Gb Hb (ρ ++ [s]) (σ ++ [v]) G H) : RelS K Gb Hb ρ σ G H := by
  have hl : ρ.length = σ.length := by
    have := r.len
    simpa using this
  have back : ∀ {i : Nat} {y : Option V} {x : Option Sl}, ρ[i]? = some x → (σ ++ [v])[i]? = some y → σ[i]? = some y := by
    intro i y x e h
    have hi : i < σ.length := by rw [← hl]; exact (List.getElem?_eq_some_iff.mp e).1
    rw [List.getElem?_append_left hi] at h
    exact h
  exact {
    step := r.step
    len := hl
    val := fun i x e => by
      obtain ⟨v, h1, h2⟩ := r.val i x (app_get e)
      exact ⟨v, back e h1, h2⟩
    own := fun i xs e => by
      obtain ⟨a, vs, h1, h2⟩ := r.own i xs (app_get e)
      exact ⟨a, vs, back e h1, h2⟩
    ins := fun i a C fs e => by
      obtain ⟨dx, gs, h1, h2⟩ := r.ins i a C fs (app_get e)
      exact ⟨dx, gs, back e h1, h2⟩
    exc := fun i a d C fs e => by
      obtain ⟨h1, h2⟩ := r.exc i a d C fs (app_get e)
      exact ⟨back e h1, h2⟩
    one := fun j k a C b D fs gs e1 e2 => r.one j k a C b D fs gs (app_get e1) (app_get e2)
    sep := fun j k xs ys a e1 e2 s1 s2 => r.sep j k xs ys a (app_get e1) (app_get e2) (app_get s1) (app_get s2) }
end
section
variable {K : PySem.W.Frag} {Gb Hb G H : Hp} {ρ : PSt} {σ : L2.St} {W : WX} {y : Y} {Q : List PV → Prop} {Qh : VK} {qi : QI} {qt : QT} {qe : QE} {t : PV → PSt → (PSt → Prop) → Prop} {g : TG} {vs : List Nat}
theorem coll_drop {xs acc : List PV} {k : Nat} {x : PV} (h : xs[k]? = some x) (q : qColl t qt qe ρ Q (xs.drop k) acc) :
    t x ρ fun ρ1 => qt ρ1 (fun _ => False) fun b => if b = true then qe ρ1 (fun _ => False) fun v => qColl t qt qe ρ Q (xs.drop (k + 1)) (acc ++ [v]) else qColl t qt qe ρ Q (xs.drop (k + 1)) acc := by
  have hl : k < xs.length := (List.getElem?_eq_some_iff.mp h).1
  rw [List.drop_eq_getElem_cons hl] at q
  rw [List.getElem?_eq_getElem hl] at h
  cases h
  exact q
theorem exok_false {K : PySem.W.Frag} {W : WX} {σ : L2.St} {G H : Hp} : ExOk K W σ G H (fun _ => False) := fun _ _ _ _ _ _ z => z.elim
theorem lc_sound (ok : TgOk K g t vs) (R : RelS K Gb Hb ρ σ G H) (E : ExOk K W σ G H y) (q : qi ρ y fun xs => xs.length ≤ 10000 ∧ qColl t qt qe (wipeP ρ vs) Q xs [])
    (k : ∀ acc accv D G' H', Step G H G' H' → G' D = none → H D = none → H' D = some (.lst accv) → Reps K G' acc accv → Q acc → Qh (.ref D) H') :
    tLc (tIJ K W qi) g (tTJ K (fun _ _ _ _ => False) qt) (tJ K (fun _ _ _ _ => False) qe) vs σ H Qh := by
  refine ⟨Gb, Hb, ρ, G, y, _, R, E, q, fun xs J G1 H1 s1 it ⟨hx, q1⟩ D hD => ?_⟩
  have R1 := (R.mono s1).wiped vs
  have hG1 : G1 D = none := s1.gh.free hD
  have hH : H D = none := s1.hh.free hD
  have hHb : Hb D = none := R1.step.hh.free hD
  have Rx : RelS K Gb Hb (wipeP ρ vs ++ [some (.own [])]) (wipe σ vs ++ [some (.ref D)]) G1 (upd H1 D (.lst [])) := by
    have r0 := (R1.mono (Step.hid (o := .lst []) R1.gh hD)).ext
    have r1 := r0.setOwn (wipeP ρ vs).length (p := D) (xs := []) (vs := []) upd_same .nil hG1 hHb fun j ys ej sj => ?_
    · rw [List.set_append_right _ _ (Nat.le_refl _), R1.len, List.set_append_right _ _ (Nat.le_refl _)] at r1
      simpa using r1
    · rcases get_app ej with ⟨_, e⟩ | ⟨_, e⟩
      · obtain ⟨a, us, e1, e2, _⟩ := R1.own j ys e
        have hj : j < (wipe σ vs).length := (List.getElem?_eq_some_iff.mp e1).1
        rw [List.getElem?_append_left hj, e1] at sj
        cases sj
        rw [hD] at e2
        cases e2
      · cases e
  have st0 : Step G1 H1 G1 (upd H1 D (.lst [])) := Step.hid (o := .lst []) R1.gh hD
  refine ⟨fun i m H' => m = xs.length - i ∧ i ≤ xs.length ∧ ∃ acc Gc, acc.length ≤ i ∧ RelS K Gb Hb (wipeP ρ vs ++ [some (.own acc)]) (wipe σ vs ++ [some (.ref D)]) Gc H' ∧ Step G1 H1 Gc H' ∧ qColl t qt qe (wipeP ρ vs) Q (xs.drop i) acc,
    ⟨xs.length, by simp, Nat.zero_le _, [], G1, Nat.le_refl _, Rx, st0, q1⟩, ?_⟩
  rintro i m H' ⟨rfl, hi, acc, Gc, hacc, Rc, st, q2⟩
  have eρ : (wipeP ρ vs ++ [some (Sl.own acc)])[(wipeP ρ vs).length]? = some (some (.own acc)) := by simp
  have eσ : (wipe σ vs ++ [some (V.ref D)])[(wipeP ρ vs).length]? = some (some (.ref D)) := by rw [R1.len]; simp
  obtain ⟨a, accv, f1, f2, f3, f4, f5⟩ := Rc.own _ _ eρ
  rw [eσ] at f1
  cases f1
  by_cases hl : i < xs.length
  · refine .inr ⟨it.go i Gc H' st.gg Rc.gh hl, fun H2 => ∃ acc Gc, acc.length ≤ i + 1 ∧ RelS K Gb Hb (wipeP ρ vs ++ [some (.own acc)]) (wipe σ vs ++ [some (.ref D)]) Gc H2 ∧ Step G1 H1 Gc H2 ∧ qColl t qt qe (wipeP ρ vs) Q (xs.drop (i + 1)) acc,
      fun H2 h2 => ⟨xs.length - (i + 1), by omega, rfl, hl, h2⟩, fun v H2 yy => ?_⟩
    obtain ⟨G2, st2, r⟩ := it.yld i xs[i] Gc H' v H2 st.gg Rc.gh (List.getElem?_eq_getElem hl) yy
    have q3 := coll_drop (List.getElem?_eq_getElem hl) q2
    have Rc2 := Rc.mono st2
    refine ok Gb Hb (wipeP ρ vs) (wipe σ vs) G2 H2 xs[i] v _ _ Rc2.cut r q3 fun ρ3 σ3 R3 q4 hl3 hj3 => ?_
    refine ⟨wipe_same hl3 hj3, Gb, Hb, ρ3, G2, _, _, R3, exok_false, q4, fun b G3 H3 st3 q5 => ?_⟩
    cases b with
    | false => exact ⟨acc, G3, Nat.le_succ_of_le hacc, Rc2.mono st3, (st.trans st2).trans st3, q5⟩
    | true =>
      refine ⟨Gb, Hb, ρ3, G3, _, _, R3.mono st3, exok_false, q5, fun x w G4 H4 st4 rx q6 => ?_⟩
      have s24 := (st2.trans st3).trans st4
      have Rc4 := Rc.mono s24
      have hD4 : H4 D = some (.lst accv) := s24.hh _ _ f2
      have gD4 : G4 D = none := s24.hidden f2 f4
      refine ⟨accv, hD4, ?_, acc ++ [x], G4, ?_, ?_, ?_, q6⟩
      · rw [← f3.length]
        have : (10000 : Nat) < sizeLine := by decide
        omega
      · rw [List.length_append]
        exact Nat.succ_le_succ hacc
      · have r5 := Rc4.turn eρ eσ hD4 ((f3.mono s24.gg).append (.cons rx .nil))
        rw [List.set_append_right _ _ (Nat.le_refl _)] at r5
        simpa using r5
      · have s4 := st.trans s24
        refine ⟨fun b o e => ?_, s4.gg, fun b o e => ?_, s4.new⟩
        · rw [upd_ne (ne_of_none e hD)]
          exact s4.hh b o e
        · rw [upd_ne (ne_of_none e gD4)]
          exact s4.gh b o e
  · have e : i = xs.length := by omega
    subst e
    rw [List.drop_length] at q2
    exact .inl ⟨it.stop _ Gc H' st.gg Rc.gh (Nat.le_refl _), k acc accv D Gc H' (s1.trans st) f4 hH f2 f3 q2⟩
end
section
variable {X : Cx} {W : WX} {tg ie elt : Expr} {ifs : List Expr} {scope : Scope} {own : List (Str × Nat)} {pos : Pos} {qi : QI} {qt : QT} {qe : QE} {t : PV → PSt → (PSt → Prop) → Prop} {g : TG}
theorem jts_nil {X : Cx} {W : WX} : PTs X [] (tTJ X.K W qYes) := by
  refine ⟨fun pins s σ H Q I h => wpAny_tests_nil ⟨H, I, ?_⟩⟩
  obtain ⟨Gb, Hb, ρ, G, y, Q', R, E, q, k⟩ := h
  exact k true G H (.refl R.gh) q
theorem jts_one {X : Cx} {W : WX} {c : Expr} {q : QT} (h : JT X W c q) : PTs X [c] (tTJ X.K W q) := pts_one h
theorem je_lc (hc : X.calm = true) (hN : X.N.Nodup) (hi : JI X W tg ie qi) (okb : BlkOk X.N X.env.scope scope own) (ok : TgOk X.K g t (own.map (·.2)))
    (hg : ∀ (s : Shared) (H : Hp) (C : Addr) (cl : List (Str × Addr)) (fp : List Addr), PG (X.blk s H scope (compEnvC scope cl C X.env) fp) tg g)
    (ht : ∀ (s : Shared) (H : Hp) (C : Addr) (cl : List (Str × Addr)) (fp : List Addr), PTs (X.blk s H scope (compEnvC scope cl C X.env) fp) ifs (tTJ X.K (fun _ _ _ _ => False) qt))
    (he : ∀ (s : Shared) (H : Hp) (C : Addr) (cl : List (Str × Addr)) (fp : List Addr), JE (X.blk s H scope (compEnvC scope cl C X.env) fp) (fun _ _ _ _ => False) elt qe) (hs : ∀ x, foldedSetIterable ie X.env x = pure x := by intro _; rfl) :
    JE X W (.ListComp elt [⟨tg, ie, ifs, 0⟩] scope pos) (qLc t (own.map (·.2)) qi qt qe) := by
  refine PE.imp (pe_lc (te := tJ X.K (fun _ _ _ _ => False) qe) hc hN hi okb hg ht he hs) fun σ H Qh ⟨Gb, Hb, ρ, G, y, Q, R, E, q, k⟩ => ?_
  refine lc_sound ok R E q fun acc accv D G' H' st gD hD hD' r q' => ?_
  have gg : Same G' (upd G' D (.lst accv)) := fun b o z => by rw [upd_ne (ne_of_none z gD)]; exact z
  refine k (.lst acc) (.ref D) (upd G' D (.lst accv)) H' ⟨st.hh, st.gg.trans gg, fun b o z => ?_, fun b o z n => ?_⟩ (.lst (.inl (.inl upd_same)) (r.mono gg)) q'
  · by_cases c : b = D
    · subst c; rw [upd_same] at z; cases z; exact hD'
    · rw [upd_ne c] at z; exact st.gh b o z
  · by_cases c : b = D
    · subst c; exact hD
    · rw [upd_ne c] at z; exact st.new b o z n
theorem js_setLc (i : Nat) {x : Str} {px spos : Pos} (hc : X.calm = true) (hN : X.N.Nodup) (hi : JI X W tg ie qi) (okb : BlkOk X.N X.env.scope scope own) (ok : TgOk X.K g t (own.map (·.2)))
    (hg : ∀ (s : Shared) (H : Hp) (C : Addr) (cl : List (Str × Addr)) (fp : List Addr), PG (X.blk s H scope (compEnvC scope cl C X.env) fp) tg g)
    (ht : ∀ (s : Shared) (H : Hp) (C : Addr) (cl : List (Str × Addr)) (fp : List Addr), PTs (X.blk s H scope (compEnvC scope cl C X.env) fp) ifs (tTJ X.K (fun _ _ _ _ => False) qt))
    (he : ∀ (s : Shared) (H : Hp) (C : Addr) (cl : List (Str × Addr)) (fp : List Addr), JE (X.blk s H scope (compEnvC scope cl C X.env) fp) (fun _ _ _ _ => False) elt qe)
    (hy : X.N[i]? = some x := by rfl) (hyl : X.env.scope.names.lookup x = some .local := by rfl) (hsw : swapsWith (.ListComp elt [⟨tg, ie, ifs, 0⟩] scope pos) (some (.Name x px)) spos.line X.env = pure true := by exact sw_true rfl rfl rfl (by decide +kernel))
    (hs : ∀ x, foldedSetIterable ie X.env x = pure x := by intro _; rfl) :
    JS X W (.Assign [.Name x px] (.ListComp elt [⟨tg, ie, ifs, 0⟩] scope pos) spos) (qSet i (qLc t (own.map (·.2)) qi qt qe)) := by
  refine PS.imp (ps_setLc (te := tJ X.K (fun _ _ _ _ => False) qe) hc hN hy hyl hsw hi okb hg ht he hs) fun Dh σ H ⟨Gb, Hb, ρ, G, D, R, M, q⟩ => ?_
  refine lc_sound ok R (M.exok R) q fun acc accv A G' H' st gD hD hD' r q' => ?_
  have gg : Same G' (upd G' A (.lst accv)) := fun b o z => by rw [upd_ne (ne_of_none z gD)]; exact z
  have st2 : Step G H (upd G' A (.lst accv)) H' := ⟨st.hh, st.gg.trans gg, fun b o z => by
      by_cases c : b = A
      · subst c; rw [upd_same] at z; cases z; exact hD'
      · rw [upd_ne c] at z; exact st.gh b o z, fun b o z n => by
      by_cases c : b = A
      · subst c; exact hD
      · rw [upd_ne c] at z; exact st.new b o z n⟩
  exact M.nx _ _ _ H' ((R.mono st2).set i (.lst (.inl (.inl upd_same)) (r.mono gg))) q'
/-- x = [..], a list that the def will change -/
def qOwnLc (i : Nat) (t : PV → PSt → (PSt → Prop) → Prop) (vs : List Nat) (qi : QI) (qt : QT) (qe : QE) : QS := fun D ρ => qi ρ (D.ex ρ) fun xs => xs.length ≤ 10000 ∧ qColl t qt qe (wipeP ρ vs) (fun acc => D.nx (ρ.set i (some (.own acc)))) xs []
theorem js_ownLc (i : Nat) {x : Str} {px spos : Pos} (hc : X.calm = true) (hN : X.N.Nodup) (hi : JI X W tg ie qi) (okb : BlkOk X.N X.env.scope scope own) (ok : TgOk X.K g t (own.map (·.2)))
    (hg : ∀ (s : Shared) (H : Hp) (C : Addr) (cl : List (Str × Addr)) (fp : List Addr), PG (X.blk s H scope (compEnvC scope cl C X.env) fp) tg g)
    (ht : ∀ (s : Shared) (H : Hp) (C : Addr) (cl : List (Str × Addr)) (fp : List Addr), PTs (X.blk s H scope (compEnvC scope cl C X.env) fp) ifs (tTJ X.K (fun _ _ _ _ => False) qt))
    (he : ∀ (s : Shared) (H : Hp) (C : Addr) (cl : List (Str × Addr)) (fp : List Addr), JE (X.blk s H scope (compEnvC scope cl C X.env) fp) (fun _ _ _ _ => False) elt qe)
    (hy : X.N[i]? = some x := by rfl) (hyl : X.env.scope.names.lookup x = some .local := by rfl) (hsw : swapsWith (.ListComp elt [⟨tg, ie, ifs, 0⟩] scope pos) (some (.Name x px)) spos.line X.env = pure true := by exact sw_true rfl rfl rfl (by decide +kernel))
    (hs : ∀ x, foldedSetIterable ie X.env x = pure x := by intro _; rfl) :
    JS X W (.Assign [.Name x px] (.ListComp elt [⟨tg, ie, ifs, 0⟩] scope pos) spos) (qOwnLc i t (own.map (·.2)) qi qt qe) := by
  refine PS.imp (ps_setLc (te := tJ X.K (fun _ _ _ _ => False) qe) hc hN hy hyl hsw hi okb hg ht he hs) fun Dh σ H ⟨Gb, Hb, ρ, G, D, R, M, q⟩ => ?_
  refine lc_sound ok R (M.exok R) q fun acc accv A G' H' st gD hD hD' r q' => ?_
  refine M.nx _ _ G' H' ((R.mono st).setOwn i hD' r gD (R.step.hh.free hD) fun j ys ej sj => ?_) q'
  obtain ⟨a, us, e1, e2, _⟩ := R.own j ys ej
  rw [sj] at e1
  cases e1
  rw [hD] at e2
  cases e2
end
end QL

set_option maxHeartbeats 2000000
namespace QL
open PySem PySem.Spec PyProof.Rows L2
/-! ### lists of ints, of truth values -/
def intsOf : List PV → Option (List Int)
  | [] => some []
  | .int i :: r => match intsOf r with
    | some l => some (i :: l)
    | none => none
  | _ :: _ => none
def blsOf : List PV → Option (List Bool)
  | [] => some []
  | .bl i :: r => match blsOf r with
    | some l => some (i :: l)
    | none => none
  | _ :: _ => none
theorem intsOf_map : ∀ (ns : List Int), intsOf (ns.map PV.int) = some ns
  | [] => rfl
  | n :: ns => by
    show (match intsOf (ns.map PV.int) with
      | some l => some (n :: l)
      | none => none) = _
    rw [intsOf_map ns]
theorem blsOf_map : ∀ (ns : List Bool), blsOf (ns.map PV.bl) = some ns
  | [] => rfl
  | n :: ns => by
    show (match blsOf (ns.map PV.bl) with
      | some l => some (n :: l)
      | none => none) = _
    rw [blsOf_map ns]
theorem intsOf_eq : ∀ {xs : List PV} {ns : List Int}, intsOf xs = some ns → xs = ns.map PV.int
  | [], ns, h => by cases h; rfl
  | .int i :: r, ns, h => by
    unfold intsOf at h
    split at h
    · rename_i l e
      cases h
      rw [intsOf_eq e]
      rfl
    · cases h
  | .non :: _, _, h | .bl _ :: _, _, h | .str _ :: _, _, h | .ty _ :: _, _, h | .adr _ :: _, _, h | .lst _ :: _, _, h | .tup _ :: _, _, h | .obj _ _ :: _, _, h => by cases h
theorem blsOf_eq : ∀ {xs : List PV} {ns : List Bool}, blsOf xs = some ns → xs = ns.map PV.bl
  | [], ns, h => by cases h; rfl
  | .bl i :: r, ns, h => by
    unfold blsOf at h
    split at h
    · rename_i l e
      cases h
      rw [blsOf_eq e]
      rfl
    · cases h
  | .non :: _, _, h | .int _ :: _, _, h | .str _ :: _, _, h | .ty _ :: _, _, h | .adr _ :: _, _, h | .lst _ :: _, _, h | .tup _ :: _, _, h | .obj _ _ :: _, _, h => by cases h
theorem Reps.bls {K : PySem.W.Frag} {G : Hp} : ∀ {ns : List Bool} {vs : List V}, Reps K G (ns.map PV.bl) vs → vs = ns.map V.bl
  | [], _, .nil => rfl
  | _ :: _, _, .cons (.bl _) t => by rw [Reps.bls t]; rfl
def cSum : Q1 := fun xs Q => match xs with
  | [.lst ys] => (match intsOf ys with
    | some ns => Q (.int ns.sum)
    | none => False)
  | _ => False
def cAll : Q1 := fun xs Q => match xs with
  | [.lst ys] => (match blsOf ys with
    | some ns => Q (.bl (ns.all id))
    | none => False)
  | _ => False
def cAny : Q1 := fun xs Q => match xs with
  | [.lst ys] => (match blsOf ys with
    | some ns => Q (.bl (ns.any id))
    | none => False)
  | _ => False
def cMaxL : Q1 := fun xs Q => match xs with
  | [.lst ys] => (match intsOf ys with
    | some ns => 0 < ns.length ∧ ∀ m, m ∈ ns → (∀ y, y ∈ ns → y ≤ m) → Q (.int m)
    | none => False)
  | _ => False
def cMinL : Q1 := fun xs Q => match xs with
  | [.lst ys] => (match intsOf ys with
    | some ns => 0 < ns.length ∧ ∀ m, m ∈ ns → (∀ y, y ∈ ns → m ≤ y) → Q (.int m)
    | none => False)
  | _ => False
def cMax : Q1 := fun xs Q => match xs with
  | [.int i, .int j] => Q (.int (if j > i then j else i))
  | _ => False
def cMin : Q1 := fun xs Q => match xs with
  | [.int i, .int j] => Q (.int (if j < i then j else i))
  | _ => False
def cList : Q1 := fun xs Q => match xs with
  | [.lst ys] => Q (.lst ys)
  | [.tup ys] => Q (.lst ys)
  | _ => False
def cTuple : Q1 := fun xs Q => match xs with
  | [.lst ys] => Q (.tup ys)
  | [.tup ys] => Q (.tup ys)
  | _ => False
/-- lcm of two ints below 2 ^ 13000 -/
def cLcm : Q1 := fun xs Q => match xs with
  | [.int i, .int j] => (i.natAbs < 2 ^ 13000 ∧ j.natAbs < 2 ^ 13000) ∧ Q (.int ((Nat.lcm i.natAbs j.natAbs : Nat) : Int))
  | _ => False
def rLcm : List V → Hp → VK → Prop := fun vs H Q => ∃ a b : Int, vs = [.int a, .int b] ∧ (a.natAbs < 2 ^ 13000 ∧ b.natAbs < 2 ^ 13000) ∧ Q (.int ((Nat.lcm a.natAbs b.natAbs : Nat) : Int)) H
theorem log_lt {n k : Nat} (h : n < 2 ^ k) (hk : 0 < k) : n.log2 < k := by
  by_cases e : n = 0
  · rw [e]
    simpa using hk
  · exact (Nat.log2_lt e).mpr h
theorem cr_lcm {X : Cx} : CallR X (.builtin "math.lcm") rLcm := by
  intro pins s σ H vs us Q I r h
  obtain ⟨a, b, rfl, ⟨ha, hb⟩, q⟩ := h
  obtain ⟨t, u, rfl⟩ := Vals.int2 r
  have la := log_lt ha (by decide)
  have lb := log_lt hb (by decide)
  have e1 : Nat.lcm 1 a.natAbs = a.natAbs := Nat.lcm_one_left _
  have h1 : (max 1 a.natAbs).log2 < 13000 := log_lt (Nat.max_lt.mpr ⟨Nat.one_lt_two_pow (by decide), ha⟩) (by decide)
  have h2 : (max a.natAbs b.natAbs).log2 < 13000 := log_lt (Nat.max_lt.mpr ⟨ha, hb⟩) (by decide)
  have h3 : ((((Nat.lcm 1 a.natAbs).lcm b.natAbs : Nat) : Int)).natAbs.log2 < bitsLine := by
    rw [e1, Int.natAbs_natCast]
    have : Nat.lcm a.natAbs b.natAbs < 2 ^ 26000 := by
      by_cases hz : a.natAbs = 0 ∨ b.natAbs = 0
      · have : Nat.lcm a.natAbs b.natAbs = 0 := by
          rcases hz with z | z
          · rw [z]; exact Nat.lcm_zero_left _
          · rw [z]; exact Nat.lcm_zero_right _
        rw [this]
        exact Nat.two_pow_pos _
      · have hd : Nat.lcm a.natAbs b.natAbs ≤ a.natAbs * b.natAbs := Nat.div_le_self _ _
        have : a.natAbs * b.natAbs < 2 ^ 13000 * 2 ^ 13000 := Nat.mul_lt_mul'' ha hb
        rw [← Nat.pow_add] at this
        exact Nat.lt_of_le_of_lt hd this
    have h4 := log_lt this (by decide)
    have h5 : (26000 : Nat) < bitsLine := by decide
    omega
  refine PySem.call_function_meets PySem.W.MGF.kind_lcm PySem.W.MGF.plain_lcm PySem.W.MGF.entry_lcm (PySem.W.MGF.args_lcm _ _) (PySem.W.mg_run_lcm a _ b _ (by omega) (by omega) h3).meets ?_
  rw [e1]
  exact ⟨.int _, H, I.tok _, ⟨_, rfl⟩, q⟩
section
variable {K : PySem.W.Frag}
theorem snd_sum : SndC K (rSum K) cSum := by
  intro xs vs G H Q Qh hs r q k
  unfold cSum at q
  split at q
  · split at q
    · rename_i ys ns e
      obtain ⟨v, rfl, h⟩ := rep1 r
      cases h with
      | @lst a ws _ hq hr =>
        rw [intsOf_eq e] at hr
        rw [hr.ints] at hq
        exact ⟨a, ns, rfl, hs.seq hq, k _ _ G H (.refl hs) (.int _) q⟩
    · exact q.elim
  · exact q.elim
theorem snd_all : SndC K (rAll K) cAll := by
  intro xs vs G H Q Qh hs r q k
  unfold cAll at q
  split at q
  · split at q
    · rename_i ys ns e
      obtain ⟨v, rfl, h⟩ := rep1 r
      cases h with
      | @lst a ws _ hq hr =>
        rw [blsOf_eq e] at hr
        rw [hr.bls] at hq
        exact ⟨a, ns, rfl, hs.seq hq, k _ _ G H (.refl hs) (.bl _) q⟩
    · exact q.elim
  · exact q.elim
theorem snd_any : SndC K (rAny K) cAny := by
  intro xs vs G H Q Qh hs r q k
  unfold cAny at q
  split at q
  · split at q
    · rename_i ys ns e
      obtain ⟨v, rfl, h⟩ := rep1 r
      cases h with
      | @lst a ws _ hq hr =>
        rw [blsOf_eq e] at hr
        rw [hr.bls] at hq
        exact ⟨a, ns, rfl, hs.seq hq, k _ _ G H (.refl hs) (.bl _) q⟩
    · exact q.elim
  · exact q.elim
theorem snd_maxL : SndC K (rMax K) cMaxL := by
  intro xs vs G H Q Qh hs r q k
  unfold cMaxL at q
  split at q
  · split at q
    · rename_i ys ns e
      obtain ⟨v, rfl, h⟩ := rep1 r
      cases h with
      | @lst a ws _ hq hr =>
        rw [intsOf_eq e] at hr
        rw [hr.ints] at hq
        exact ⟨a, ns, rfl, hs.seq hq, q.1, fun m h1 h2 => k _ _ G H (.refl hs) (.int _) (q.2 m h1 h2)⟩
    · exact q.elim
  · exact q.elim
theorem snd_minL : SndC K (rMin K) cMinL := by
  intro xs vs G H Q Qh hs r q k
  unfold cMinL at q
  split at q
  · split at q
    · rename_i ys ns e
      obtain ⟨v, rfl, h⟩ := rep1 r
      cases h with
      | @lst a ws _ hq hr =>
        rw [intsOf_eq e] at hr
        rw [hr.ints] at hq
        exact ⟨a, ns, rfl, hs.seq hq, q.1, fun m h1 h2 => k _ _ G H (.refl hs) (.int _) (q.2 m h1 h2)⟩
    · exact q.elim
  · exact q.elim
theorem snd_max2 : SndC K (fun xs H Q => ∃ i j, xs = [.int i, .int j] ∧ Q (.int (if j > i then j else i)) H) cMax := by
  intro xs vs G H Q Qh hs r q k
  unfold cMax at q
  split at q
  · obtain ⟨v, w, rfl, h1, h2⟩ := rep2 r
    cases h1; cases h2
    exact ⟨_, _, rfl, k _ _ G H (.refl hs) (.int _) q⟩
  · exact q.elim
theorem snd_min2 : SndC K (fun xs H Q => ∃ i j, xs = [.int i, .int j] ∧ Q (.int (if j < i then j else i)) H) cMin := by
  intro xs vs G H Q Qh hs r q k
  unfold cMin at q
  split at q
  · obtain ⟨v, w, rfl, h1, h2⟩ := rep2 r
    cases h1; cases h2
    exact ⟨_, _, rfl, k _ _ G H (.refl hs) (.int _) q⟩
  · exact q.elim
theorem snd_lcm : SndC K rLcm cLcm := by
  intro xs vs G H Q Qh hs r q k
  unfold cLcm at q
  split at q
  · obtain ⟨v, w, rfl, h1, h2⟩ := rep2 r
    cases h1; cases h2
    exact ⟨_, _, rfl, q.1, k _ _ G H (.refl hs) (.int _) q.2⟩
  · exact q.elim
theorem snd_list : SndC K (fun xs H Q => ∃ p ys, xs = [.ref p] ∧ (SqL K H p ys ∨ SqT K H p ys) ∧ ∀ l, H l = none → Q (.ref l) (upd H l (.lst ys))) cList := by
  intro xs vs G H Q Qh hs r q k
  unfold cList at q
  split at q
  · obtain ⟨v, rfl, h⟩ := rep1 r
    cases h with
    | @lst a ws _ hq hr =>
      refine ⟨a, ws, rfl, .inl (hs.seq hq), fun l hl => ?_⟩
      have st := Step.alloc (o := .lst ws) hs hl
      exact k _ _ _ _ st (.lst (.inl (.inl upd_same)) (hr.mono st.gg)) q
  · obtain ⟨v, rfl, h⟩ := rep1 r
    cases h with
    | @tup a ws _ hq hr =>
      refine ⟨a, ws, rfl, .inr (Same.sqT hs hq), fun l hl => ?_⟩
      have st := Step.alloc (o := .lst ws) hs hl
      exact k _ _ _ _ st (.lst (.inl (.inl upd_same)) (hr.mono st.gg)) q
  · exact q.elim
theorem snd_tuple : SndC K (fun xs H Q => ∃ p ys, xs = [.ref p] ∧ ((SqL K H p ys ∧ ∀ l, H l = none → Q (.ref l) (upd H l (.tup ys))) ∨ (SqT K H p ys ∧ Q (.ref p) H))) cTuple := by
  intro xs vs G H Q Qh hs r q k
  unfold cTuple at q
  split at q
  · obtain ⟨v, rfl, h⟩ := rep1 r
    cases h with
    | @lst a ws _ hq hr =>
      refine ⟨a, ws, rfl, .inl ⟨hs.seq hq, fun l hl => ?_⟩⟩
      have st := Step.alloc (o := .tup ws) hs hl
      exact k _ _ _ _ st (.tup (.inl (.inl upd_same)) (hr.mono st.gg)) q
  · obtain ⟨v, rfl, h⟩ := rep1 r
    cases h with
    | @tup a ws _ hq hr => exact ⟨a, ws, rfl, .inr ⟨Same.sqT hs hq, k _ _ G H (.refl hs) (.tup hq hr) q⟩⟩
  · exact q.elim
end
section
variable {X : Cx} {W : WX} {x : Str} {e e2 : Expr} {qa : QA} {p pos : Pos}
theorem je_sum (hc : X.calm = true) (hm : X.mg "sum" = none) (ha : JA X W [e] qa) (hg : Gl X "sum" := by rfl) (he : starEach [e] X.env = (false, eval e X.env) :: starEach [] X.env := by rfl) : JE X W (.Call (.Name "sum" p) [e] [] pos) (qCB cSum qa) := je_cb (cr_sum hc) snd_sum hm (by decide +kernel) ha hg (by decide) (by decide) he
theorem je_all (hc : X.calm = true) (hm : X.mg "all" = none) (ha : JA X W [e] qa) (hg : Gl X "all" := by rfl) (he : starEach [e] X.env = (false, eval e X.env) :: starEach [] X.env := by rfl) : JE X W (.Call (.Name "all" p) [e] [] pos) (qCB cAll qa) := je_cb (cr_all hc) snd_all hm (by decide +kernel) ha hg (by decide) (by decide) he
theorem je_any (hc : X.calm = true) (hm : X.mg "any" = none) (ha : JA X W [e] qa) (hg : Gl X "any" := by rfl) (he : starEach [e] X.env = (false, eval e X.env) :: starEach [] X.env := by rfl) : JE X W (.Call (.Name "any" p) [e] [] pos) (qCB cAny qa) := je_cb (cr_any hc) snd_any hm (by decide +kernel) ha hg (by decide) (by decide) he
theorem je_maxL (hc : X.calm = true) (hm : X.mg "max" = none) (ha : JA X W [e] qa) (hg : Gl X "max" := by rfl) (he : starEach [e] X.env = (false, eval e X.env) :: starEach [] X.env := by rfl) : JE X W (.Call (.Name "max" p) [e] [] pos) (qCB cMaxL qa) := je_cb (cr_max hc) snd_maxL hm (by decide +kernel) ha hg (by decide) (by decide) he
theorem je_minL (hc : X.calm = true) (hm : X.mg "min" = none) (ha : JA X W [e] qa) (hg : Gl X "min" := by rfl) (he : starEach [e] X.env = (false, eval e X.env) :: starEach [] X.env := by rfl) : JE X W (.Call (.Name "min" p) [e] [] pos) (qCB cMinL qa) := je_cb (cr_min hc) snd_minL hm (by decide +kernel) ha hg (by decide) (by decide) he
theorem je_max (hc : X.calm = true) (hm : X.mg "max" = none) (ha : JA X W [e, e2] qa) (hg : Gl X "max" := by rfl) (he : starEach [e, e2] X.env = (false, eval e X.env) :: starEach [e2] X.env := by rfl) (hpl : (backTo pos (starEach [e2] X.env)).any (·.1) = false := by rfl) : JE X W (.Call (.Name "max" p) [e, e2] [] pos) (qCB cMax qa) := je_cb (call_max2 hc) snd_max2 hm (by decide +kernel) ha hg (by decide) (by decide) he hpl
theorem je_min (hc : X.calm = true) (hm : X.mg "min" = none) (ha : JA X W [e, e2] qa) (hg : Gl X "min" := by rfl) (he : starEach [e, e2] X.env = (false, eval e X.env) :: starEach [e2] X.env := by rfl) (hpl : (backTo pos (starEach [e2] X.env)).any (·.1) = false := by rfl) : JE X W (.Call (.Name "min" p) [e, e2] [] pos) (qCB cMin qa) := je_cb (call_min2 hc) snd_min2 hm (by decide +kernel) ha hg (by decide) (by decide) he hpl
theorem je_list (hm : X.mg "list" = none) (ha : JA X W [e] qa) (hg : Gl X "list" := by rfl) (he : starEach [e] X.env = (false, eval e X.env) :: starEach [] X.env := by rfl) : JE X W (.Call (.Name "list" p) [e] [] pos) (qCB cList qa) := je_ct call_list_of snd_list hm (by decide +kernel) ha hg (by decide) (by decide) he
theorem je_tuple (hm : X.mg "tuple" = none) (ha : JA X W [e] qa) (hg : Gl X "tuple" := by rfl) (he : starEach [e] X.env = (false, eval e X.env) :: starEach [] X.env := by rfl) : JE X W (.Call (.Name "tuple" p) [e] [] pos) (qCB cTuple qa) := je_ct call_tuple_of snd_tuple hm (by decide +kernel) ha hg (by decide) (by decide) he
theorem je_lcm (hm : X.mg "lcm" = some (.builtin "math.lcm")) (ha : JA X W [e, e2] qa) (hg : Gl X "lcm" := by rfl) (he : starEach [e, e2] X.env = (false, eval e X.env) :: starEach [e2] X.env := by rfl) (hpl : (backTo pos (starEach [e2] X.env)).any (·.1) = false := by rfl) : JE X W (.Call (.Name "lcm" p) [e, e2] [] pos) (qCB cLcm qa) := je_cf cr_lcm snd_lcm hm ha hg (by decide) he hpl
end
/-! ### isinstance: of tuple, list; of one of two classes -/
def isiTup (os : List Addr) : PV → Option Bool
  | .tup _ => some true
  | .lst _ => some false
  | .int _ => some false
  | .bl _ => some false
  | .non => some false
  | .str _ => some false
  | .obj C _ => if inL C os = true then some false else none
  | _ => none
def isiLst (os : List Addr) : PV → Option Bool
  | .lst _ => some true
  | .tup _ => some false
  | .int _ => some false
  | .bl _ => some false
  | .non => some false
  | .str _ => some false
  | .obj C _ => if inL C os = true then some false else none
  | _ => none
theorem kit_tup {K : PySem.W.Frag} {os : List Addr} (h : KitO K (.type "tuple") os) : KitR K (.type "tuple") (isiTup os) := by
  intro x b e
  cases x <;> simp only [isiTup, reduceCtorEq, Option.some.injEq] at e
  case non => exact ⟨_, rfl, (fun _ _ z => nomatch z), by subst e; exact kit_ty (by decide +kernel)⟩
  case bl => exact ⟨_, rfl, (fun _ _ z => nomatch z), by subst e; exact kit_ty (by decide +kernel)⟩
  case int => exact ⟨_, rfl, (fun _ _ z => nomatch z), by subst e; exact kit_ty (by decide +kernel)⟩
  case str => exact ⟨_, rfl, (fun _ _ z => nomatch z), by subst e; exact kit_ty (by decide +kernel)⟩
  case lst => exact ⟨_, rfl, (fun _ _ z => nomatch z), by subst e; exact kit_ty (by decide +kernel)⟩
  case tup => exact ⟨_, rfl, (fun _ _ z => nomatch z), by subst e; exact kit_ty (by decide +kernel)⟩
  case obj C fs =>
    split at e
    · rename_i hi
      cases e
      have hm := inL_mem hi
      exact ⟨_, rfl, (fun C' fs' z => by cases z; exact (h C hm).1), (h C hm).2⟩
    · cases e
theorem kit_lst {K : PySem.W.Frag} {os : List Addr} (h : KitO K (.type "list") os) : KitR K (.type "list") (isiLst os) := by
  intro x b e
  cases x <;> simp only [isiLst, reduceCtorEq, Option.some.injEq] at e
  case non => exact ⟨_, rfl, (fun _ _ z => nomatch z), by subst e; exact kit_ty (by decide +kernel)⟩
  case bl => exact ⟨_, rfl, (fun _ _ z => nomatch z), by subst e; exact kit_ty (by decide +kernel)⟩
  case int => exact ⟨_, rfl, (fun _ _ z => nomatch z), by subst e; exact kit_ty (by decide +kernel)⟩
  case str => exact ⟨_, rfl, (fun _ _ z => nomatch z), by subst e; exact kit_ty (by decide +kernel)⟩
  case lst => exact ⟨_, rfl, (fun _ _ z => nomatch z), by subst e; exact kit_ty (by decide +kernel)⟩
  case tup => exact ⟨_, rfl, (fun _ _ z => nomatch z), by subst e; exact kit_ty (by decide +kernel)⟩
  case obj C fs =>
    split at e
    · rename_i hi
      cases e
      have hm := inL_mem hi
      exact ⟨_, rfl, (fun C' fs' z => by cases z; exact (h C hm).1), (h C hm).2⟩
    · cases e
/-- one of two -/
def isiOr (r1 r2 : PV → Option Bool) : PV → Option Bool := fun x => match r1 x with
  | some true => (match r2 x with
    | some _ => some true
    | none => none)
  | some false => r2 x
  | none => none
theorem kit_or {K : PySem.W.Frag} {c1 c2 : Value} {r1 r2 : PV → Option Bool} (h1 : KitR K c1 r1) (h2 : KitR K c2 r2) : ∀ x b, isiOr r1 r2 x = some b → ∃ t, tyOfP x = some t ∧ (∀ C fs, x = .obj C fs → IsC K C) ∧ PySem.W.kitAny K t [c1, c2] = some b := by
  intro x b e
  unfold isiOr at e
  split at e
  · rename_i e1
    split at e
    · rename_i b2 e2
      cases e
      obtain ⟨t, a1, a2, a3⟩ := h1 x true e1
      exact ⟨t, a1, a2, kitAny_cons (r := true) a3 (fun z => nomatch z) (fun _ => rfl)⟩
    · cases e
  · rename_i e1
    obtain ⟨t, a1, a2, a3⟩ := h1 x false e1
    obtain ⟨t', b1, b2, b3⟩ := h2 x b e
    rw [a1] at b1
    cases b1
    exact ⟨t, a1, a2, kitAny_cons a3 (fun _ => kitAny_cons b3 (fun z => by rw [z]; exact kitAny_nil) (fun z => z)) (fun z => nomatch z)⟩
  · cases e
section
variable {X : Cx} {W : WX} {e ce1 ce2 : Expr} {q : QE} {p pos tpos : Pos} {kk : Nat} {r1 r2 : PV → Option Bool} {v1 v2 : V} {c1 c2 : Value}
theorem je_isi2 (h1 : KitR X.K c1 r1) (h2 : KitR X.K c2 r2) (hm : X.mg "isinstance" = none) (h : JE X W e q) (p1 : PE X ce1 (tC v1)) (p2 : PE X ce2 (tC v2)) (k1 : ClsV v1 c1) (k2 : ClsV v2 c2) (hg : Gl X "isinstance" := by rfl)
    (hs : starEach [e, .Tuple [ce1, ce2] kk tpos] X.env = (false, eval e X.env) :: starEach [.Tuple [ce1, ce2] kk tpos] X.env := by rfl) (hs2 : starEach [.Tuple [ce1, ce2] kk tpos] X.env = (false, eval (.Tuple [ce1, ce2] kk tpos) X.env) :: starEach [] X.env := by rfl)
    (hpl : (backTo pos (starEach [.Tuple [ce1, ce2] kk tpos] X.env)).any (·.1) = false := by rfl) (hs3 : starEach [ce1, ce2] X.env = (false, eval ce1 X.env) :: starEach [ce2] X.env := by rfl) (hs4 : starEach [ce2] X.env = (false, eval ce2 X.env) :: starEach [] X.env := by rfl) :
    JE X W (.Call (.Name "isinstance" p) [e, .Tuple [ce1, ce2] kk tpos] [] pos) (qIsi (isiOr r1 r2) q) := by
  refine PE.imp (pe_callB call_isiT hg hm (by decide +kernel) (pa_cons h (pa_cons (pe_tup (pa_cons p1 (pa_cons p2 pa_nil hs4) hs3)) pa_nil hs2) hs) (by decide) (by decide) hs hpl) fun σ H Qh ⟨Gb, Hb, ρ, G, y, Q, R, E, q, k⟩ => ?_
  refine ⟨Gb, Hb, ρ, G, y, _, R, E, q, fun x v G1 H1 s1 r1' q1 => ?_⟩
  split at q1
  · rename_i b eb
    obtain ⟨t, e1, e2, e3⟩ := kit_or h1 h2 x b eb
    refine ⟨by show (2 : Nat) ≤ sizeLine; decide, fun tp htp => ?_⟩
    have st := Step.hid (o := .tup [v1, v2]) s1.gh htp
    exact ⟨v, tp, [v1, v2], t, [c1, c2], b, rfl, upd_same, .cons k1 (.cons k2 .nil), tyx_of st.gh r1' e1 e2, e3, k _ _ G1 _ (s1.trans st) (.bl b) q1⟩
  · exact q1.elim
end
end QL

set_option maxHeartbeats 2000000
namespace PySem.W
open PySem PySem.Calls PyProof.Rows
section
variable {prog : Program} {w : World} {M : Model} {A : Around} {E : Value → Shared → Prop} {s : Shared} {K : Frag} {x y C D L f g : Addr} {h₀ : Heap} {m : Str → Option Value} {ox oy : Obj} {od od' : Option Obj} {nm T : String}
/-- x op y, two own classes, the left one's method answers -/
theorem binop_C2 {op : Operator} {rc rd : Option Value} {Q : Value → Shared → Prop} (F : Fr h₀ L s.heap m) (X₀ : K.In h₀) (I : InstAt s.heap x ox C od) (J : InstAt s.heap y oy D od') (hc : selfFirst K C = true) (hd : selfFirst K D = true)
    (hs : findIn K (.ref C) (PySem.dunder op.info.2) = some (some (.ref f))) (hf : isFn K (.ref f) = true) (hr : findIn K (.ref C) (dunderR op.info.2) = some rc) (hp : rc = none ∨ ∃ g : Addr, rc = some (.ref g))
    (hsD : findIn K (.ref D) (PySem.dunder op.info.2) = some (some (.ref g))) (hrD : findIn K (.ref D) (dunderR op.info.2) = some rd) (hpD : rd = none ∨ ∃ g : Addr, rd = some (.ref g)) (hne : (Value.ref C == Value.ref D) = false) (hsub : subIn K (.ref D) (.ref C) = some false)
    (h : wpAny (model prog w) A (call (.ref f) [.ref x, .ref y]) (CmpBack Q) E s) : wpAny (model prog w) A (binaryOp op (.ref x) (.ref y)) Q E s := by
  have X := X₀.keeps F.keep
  obtain ⟨cd, rest, hcd, hm⟩ := ksp_first hc
  obtain ⟨cd', rest', hcd', hm'⟩ := ksp_first hd
  rcases hi : op.info with ⟨sym, nm'⟩
  rw [hi] at hs hr hsD hrD
  dsimp only at hs hr hsD hrD
  have one := ksp_try X I hs hf h
  obtain ⟨hh, g, d, tt, os⟩ := s
  have L1 : Looks (model prog w) hh (typeOf (.ref x)) (.ref C) := I.type
  have L2 : Looks (model prog w) hh (typeOf (.ref y)) (.ref D) := J.type
  have L3 : Looks (model prog w) hh (fillsNumberSlot (.ref C) nm') true := fills_K X hcd hm hs
  have L4 : Looks (model prog w) hh (fillsNumberSlot (.ref D) nm') true := fills_K X hcd' hm' hsD
  have L5 : Looks (model prog w) hh (isSubtype (.ref D) (.ref C)) false := looks_subIn X hsub
  have L6 : Looks (model prog w) hh (numberSlotInPython (.ref C) nm') true := ksp_inPy X hs hr hp
  have L7 : Looks (model prog w) hh (numberSlotInPython (.ref D) nm') true := ksp_inPy X hsD hrD hpD
  simp only [binaryOp, hi]
  refine wpAny_holding (wpAny_bind ?_)
  unfold binaryOp1
  refine wpAny_bind (L1.at (wpAny_bind (L2.at (wpAny_bind (L3.at ?_)))))
  simp only [hne, Bool.false_eq_true, if_false]
  ksp_lk
  refine wpAny_mono one (fun r s' hr' => ?_) fun _ _ e => e
  obtain ⟨v, rfl, hq⟩ := hr'
  ksp_lk
  exact hq
/-- len(x) of an own __len__ -/
theorem lenO_K {Q : Value → Shared → Prop} (X : K.In s.heap) (I : InstAt s.heap x ox C od) (hs : findIn K (.ref C) "__len__" = some (some (.ref f))) (hf : isFn K (.ref f) = true)
    (h : wpAny (model prog w) A.in1 (call (.ref f) [.ref x]) (fun v s' => ∃ (i : Int) (t : Tok), v = .int i t ∧ 0 ≤ i ∧ i < 2 ^ 63 ∧ ∀ (t' tk : Nat), Q (.int i t') { s' with toks := tk }) E s) : wpAny (model prog w) A (call (.builtin "len") [.ref x]) Q E s := by
  refine Calls.call_function_entry kind_len plain_len entry_len (args_len1 _) ?_
  unfold Builtin.«len»
  refine wpAny_bind (m := oneArg "len" _) (wpAny_pure ?_)
  refine wpAny_bind (m := callSpecial? (.ref x) (Str.ofString "__len__")) (special_fn X I hs (beq_iff_eq.mp hf) (wpAny_mono h (fun v s' hv => ?_) fun _ _ e => e))
  obtain ⟨i, t, rfl, h0, h1, q⟩ := hv
  refine wpAny_bind (wpAny_holding (wpAny_pure ?_))
  refine wpAny_bind (wpAny_letGo ?_)
  show wpAny _ _ (if i < 0 then _ else _) _ _ _
  rw [if_neg (by omega)]
  show wpAny _ _ (if i ≥ 2 ^ 63 then _ else _) _ _ _
  rw [if_neg (by omega)]
  exact wpAny_bind (wpAny_mkInt (wpAny_pure ⟨_, rfl, q _ _⟩))
theorem ni_boot : bootBuiltins (Str.ofString "NotImplemented") = some .notImplemented := by decide +kernel
theorem int_mul_ref (a : Int) (t : Tok) (l : Addr) (o : Obj) (ho : o.data = .plain) :
    Meets (Builtin.«int.__mul__» ⟨[.int a t, .ref l], []⟩) (fun _ R s => s.heap.get? l = some o ∧ R (.ok (.ret Value.notImplemented)) s) :=
  .of_wp fun prog w A R s h => by
    obtain ⟨hp, g, d, tk, os⟩ := s
    obtain ⟨hl, h⟩ := h
    obtain ⟨oc, od, dt, sl⟩ := o
    simp only at ho
    subst ho
    wp_walk using wpAny_loadPart' hl
    exact ⟨_, rfl, h⟩
theorem rtry {Q : Value → Shared → Prop} {name : Str} {b : Value} (X : K.In s.heap) (I : InstAt s.heap x ox C od) (hs : findIn K (.ref C) name = some (some (.ref f))) (hf : isFn K (.ref f) = true)
    (h : wpAny M A (call (.ref f) [.ref x, b]) (CmpBack Q) E s) : wpAny M A (tryMethod (.ref x) name b) (fun r s' => ∃ v, r = some v ∧ Q v s') E s := ksp_try X I hs hf h
/-- n * y: int declines, the own __rmul__ answers -/
theorem rbinop_int {i : Int} {t : Tok} {Q : Value → Shared → Prop} (F : Fr h₀ L s.heap m) (X₀ : K.In h₀) (J : InstAt s.heap y oy D od') (hdat : oy.data = .plain) (hd : selfFirst K D = true)
    (hsD : findIn K (.ref D) "__mul__" = some (some (.ref f))) (hrD : findIn K (.ref D) "__rmul__" = some (some (.ref g))) (hg : isFn K (.ref g) = true) (hsub : subIn K (.ref D) (.type "int") = some false)
    (h : wpAny (model prog w) A (call (.ref g) [.ref y, .int i t]) (CmpBack Q) E s) : wpAny (model prog w) A (binaryOp .Mult (.int i t) (.ref y)) Q E s := by
  have X := X₀.keeps F.keep
  obtain ⟨cd', rest', hcd', hm'⟩ := ksp_first hd
  have two := ksp_try (b := .int i t) X J hrD hg h
  have one : ∀ {Q' : Option Value → Shared → Prop}, Q' none s → wpAny (model prog w) A (tryMethod (.int i t) "__mul__" (.ref y)) Q' E s := fun hq =>
    wpAny_tryMethod_declines (typeIs_int s i t) PySem.F.slot_int_mul (call_meets PySem.F.slot_int_mul (typeIs_int s i t) PySem.F.entry_int_mul (PySem.F.args_int_mul_2 _ _) (int_mul_ref i t y oy hdat) ⟨J.at_, rfl, hq⟩)
  obtain ⟨hh, g', d, tt, os⟩ := s
  have L2 : Looks (model prog w) hh (typeOf (.ref y)) (.ref D) := J.type
  have L4 : Looks (model prog w) hh (fillsNumberSlot (.ref D) "mul") true := fills_K X hcd' hm' hsD
  have L5 : Looks (model prog w) hh (isSubtype (.ref D) (.type "int")) false := looks_subIn X hsub
  have L1 : Looks (model prog w) hh (typeOf (.int i t)) (.type "int") := Looks.of_pure rfl
  have L3 : Looks (model prog w) hh (fillsNumberSlot (.type "int") "mul") true := Looks.of_pure PySem.F.fills_int_mul
  have L6 : Looks (model prog w) hh (numberSlotInPython (.type "int") "mul") false := Looks.of_pure rfl
  have hne : (Value.type "int" == Value.ref D) = false := Bool.eq_false_iff.mpr fun q => by cases beq_iff_eq.mp q
  simp only [binaryOp, show Operator.Mult.info = ("*", "mul") from rfl]
  refine wpAny_holding (wpAny_bind ?_)
  unfold binaryOp1
  refine wpAny_bind (L1.at (wpAny_bind (L2.at (wpAny_bind (L3.at ?_)))))
  simp only [hne, Bool.false_eq_true, if_false]
  ksp_lk
  refine one ?_
  ksp_lk
  refine wpAny_mono two (fun r s' hr' => ?_) fun _ _ e => e
  obtain ⟨v, rfl, hq⟩ := hr'
  ksp_lk
  exact hq
/-- x * y: the left own method declines, the right one's reflected method answers -/
theorem rbinop_C {op : Operator} {rc rd : Option Value} {e : Addr} {Q : Value → Shared → Prop} (F : Fr h₀ L s.heap m) (X₀ : K.In h₀) (I : InstAt s.heap x ox C od) (J : InstAt s.heap y oy D od') (hc : selfFirst K C = true) (hd : selfFirst K D = true)
    (hs : findIn K (.ref C) (PySem.dunder op.info.2) = some (some (.ref f))) (hf : isFn K (.ref f) = true) (hr : findIn K (.ref C) (dunderR op.info.2) = some rc) (hp : rc = none ∨ ∃ g : Addr, rc = some (.ref g))
    (hsD : findIn K (.ref D) (PySem.dunder op.info.2) = some (some (.ref e))) (hrD : findIn K (.ref D) (dunderR op.info.2) = some (some (.ref g))) (hg : isFn K (.ref g) = true) (hne : (Value.ref C == Value.ref D) = false) (hsub : subIn K (.ref D) (.ref C) = some false)
    (h : wpAny (model prog w) A (call (.ref f) [.ref x, .ref y]) (fun v s' => v = .notImplemented ∧ (∃ m', Fr h₀ L s'.heap m') ∧ (∃ ox' od1, InstAt s'.heap x ox' C od1) ∧ (∃ oy' od2, InstAt s'.heap y oy' D od2) ∧ wpAny (model prog w) A (call (.ref g) [.ref y, .ref x]) (CmpBack Q) E s') E s) :
    wpAny (model prog w) A (binaryOp op (.ref x) (.ref y)) Q E s := by
  have X := X₀.keeps F.keep
  obtain ⟨cd, rest, hcd, hm⟩ := ksp_first hc
  obtain ⟨cd', rest', hcd', hm'⟩ := ksp_first hd
  rcases hi : op.info with ⟨sym, nm'⟩
  rw [hi] at hs hr hsD hrD
  dsimp only at hs hr hsD hrD
  have one : wpAny (model prog w) A (tryMethod (.ref x) (PySem.dunder nm') (.ref y)) (fun r s' => r = none ∧ (∃ m', Fr h₀ L s'.heap m') ∧ (∃ ox' od1, InstAt s'.heap x ox' C od1) ∧ (∃ oy' od2, InstAt s'.heap y oy' D od2) ∧ wpAny (model prog w) A (call (.ref g) [.ref y, .ref x]) (CmpBack Q) E s') E s := by
    unfold tryMethod
    refine wpAny_bind (special_fn X I hs (beq_iff_eq.mp hf) (wpAny_mono h (fun v s' hv => ?_) fun _ _ e => e))
    obtain ⟨rfl, hq⟩ := hv
    exact wpAny_pure ⟨rfl, hq⟩
  obtain ⟨hh, g', d, tt, os⟩ := s
  have L1 : Looks (model prog w) hh (typeOf (.ref x)) (.ref C) := I.type
  have L2 : Looks (model prog w) hh (typeOf (.ref y)) (.ref D) := J.type
  have L3 : Looks (model prog w) hh (fillsNumberSlot (.ref C) nm') true := fills_K X hcd hm hs
  have L4 : Looks (model prog w) hh (fillsNumberSlot (.ref D) nm') true := fills_K X hcd' hm' hsD
  have L5 : Looks (model prog w) hh (isSubtype (.ref D) (.ref C)) false := looks_subIn X hsub
  have L6 : Looks (model prog w) hh (numberSlotInPython (.ref C) nm') true := ksp_inPy X hs hr hp
  have L7 : Looks (model prog w) hh (numberSlotInPython (.ref D) nm') true := ksp_inPy X hsD hrD (.inr ⟨g, rfl⟩)
  simp only [binaryOp, hi]
  refine wpAny_holding (wpAny_bind ?_)
  unfold binaryOp1
  refine wpAny_bind (L1.at (wpAny_bind (L2.at (wpAny_bind (L3.at ?_)))))
  simp only [hne, Bool.false_eq_true, if_false]
  ksp_lk
  refine wpAny_mono one (fun r s' hr' => ?_) fun _ _ e => e
  obtain ⟨rfl, ⟨m', F'⟩, ⟨ox', od1, I'⟩, ⟨oy', od2, J'⟩, hcall⟩ := hr'
  have X' := X₀.keeps F'.keep
  have two := ksp_try (b := .ref x) X' J' hrD hg hcall
  obtain ⟨hh', g'', d', tt', os'⟩ := s'
  have L1' : Looks (model prog w) hh' (typeOf (.ref x)) (.ref C) := I'.type
  have L2' : Looks (model prog w) hh' (typeOf (.ref y)) (.ref D) := J'.type
  ksp_lk
  simp only [hne, Bool.false_eq_true, if_false, Bool.not_false, Bool.and_self, if_true]
  refine wpAny_bind (wpAny_mono two (fun r s' hr' => ?_) fun _ _ e => e)
  obtain ⟨v, rfl, hq⟩ := hr'
  ksp_lk
  exact hq
end
end PySem.W
namespace QL
open PySem PySem.Spec PyProof.Rows L2
/-! ### a method that answers NotImplemented -/
def NiOk (P : Program) (w : World) (K : PySem.W.Frag) (mg : Str → Option Value) (base : Heap) (k : Nat) (f : Addr) (fd : FuncData) (ps : List Str) (ok : List PV → Prop) : Prop :=
  ∀ (A : Around) (outer : List Env) (s : Shared) (H G : Hp) (us : List Value) (vs : List V) (xs : List PV), Room k A → Env0 P w K mg base A outer s H → BindsTo s fd ⟨us, []⟩ (ps.zip us) → Vals vs us → Same G H → Reps K G xs vs → xs.length = ps.length → ok xs →
    codeAny (model P w) A (.call (.ref f) ⟨us, []⟩) (fun r s' => match r with
      | .ok (.ret u) => u = .notImplemented ∧ CE outer P w H s (fun _ H' => ∃ G', Step G H G' H') .none s'
      | _ => False) s
section
variable {P : Program} {w : World} {K : PySem.W.Frag} {mg : Str → Option Value} {base : Heap} {x qual : Str} {st : Stmt} {f : Addr} {fd : FuncData} {N ps : List Str} {k : Nat} {dvs : List V} {test : Expr} {np rp ip : Pos} {rest : List Stmt} {q : QT} {ok : List PV → Prop}
theorem ni_q (F : FunA K x qual st dvs f fd) (S : FnScope N ps (defScope st)) (hb : defBody st = .If test [.Return (some (.Name "NotImplemented" np)) rp] [] ip :: rest) (hm : mg "NotImplemented" = none)
    (hg : ∀ (cdv : Value) (L : Addr), (envOfC qual (defScope st) L f cdv).kindOf "NotImplemented" = some .globalImplicit)
    (hq : ∀ (cdv : Value) (A : Around) (outer : List Env) (s : Shared) (H : Hp) (E : XK), Room k (A.deeper (envOfC qual (defScope st) s.heap.objs.size f cdv)) →
      JT (cxOf (L2.CX P w) P w K mg base N qual (defScope st) f cdv A outer s H E) (fun cls d _ H => E cls d H) test q)
    (hp : ∀ xs, xs.length = ps.length → ok xs → q (startP N.length xs) (fun _ => False) (fun b => b = true)) : NiOk P w K mg base (k + 1) f fd ps ok := by
  intro A outer s H G us vs xs hr e0 hbt r sm rx hl hok
  obtain ⟨oc, od, dV, kV, doc, pm, an, cdv, ct, osl, rfl, lk, hcd, _, _⟩ := F.ex
  have hlv : vs.length = ps.length := by rw [← rx.length]; exact hl
  have KX : K.In s.heap := e0.mod.kin.keeps fun b o e => (e0.bs b o e).1
  have lim : s.heap.NoLimit := e0.mod.nolimit.keeps fun b o e => (e0.bs b o e).1
  have hkind : ∀ y ∈ ps.zip us, (defScope st).names.lookup y.1 = some .local ∨ ((defScope st).names.lookup y.1 = some .cell ∧ ((cellsFrom (s.heap.objs.size + 1) (defScope st).names []).lookup y.1).isSome = true) := fun ⟨n, v⟩ hy => by
    rcases S.par n (List.of_mem_zip hy).1 with q | q
    · exact .inl q
    · exact .inr ⟨q, PySem.W.cellsFrom_some _ _ _ (.inl q)⟩
  refine codeAny_call_function hr.depth (KX _ _ lk) rfl S.co S.gen rfl (PySem.W.codeRec_of KX hcd) (hbt _ _ _ _ ?_)
  refine wpAny_newFunctionEnv_cells S.kind hkind fun env he s1 x1 => ?_
  subst he
  refine ⟨lim.keeps x1.toInCall.keep, codeAny_func ?_⟩
  have I : Inv (cxOf (L2.CX P w) P w K mg base N qual (defScope st) f cdv A outer s H (fun _ _ _ => False)) [] (start N vs) H s1 := inv_start S hr.hd e0 hlv r x1
  have jt := hq cdv A outer s H (fun _ _ _ => False) (hr.deeper _)
  have tq : tTJ K (fun cls d _ H => (fun _ _ _ => False : XK) cls d H) q (start N vs) H (fun b H' => b = true ∧ ∃ G', Step G H G' H') := by
    refine ⟨G, H, startP N.length xs, G, fun _ => False, fun b => b = true, rels_start sm rx, fun _ _ _ _ _ _ z => z.elim, hp xs hl hok, fun b G' H' st hb => ⟨hb, G', st⟩⟩
  rw [hb]
  refine wpAny_mono (Q := fun fl s' => ∃ (σ' : L2.St) (H' : Hp), fl = .ret .notImplemented ∧ Inv (cxOf (L2.CX P w) P w K mg base N qual (defScope st) f cdv A outer s H (fun _ _ _ => False)) [] σ' H' s' ∧ ∃ G', Step G H G' H')
    (wpAny_execs_cons (wpAny_If (thn (jt.run [] s1 (start N vs) H _ I tq) fun d s2 ⟨H1, I1, hd, G', st'⟩ => ?_))) (fun fl s' hs => ?_) fun e s' hs => ?_
  · subst hd
    simp only [if_true]
    refine wpAny_execs_cons (wpAny_Return_some ?_)
    exact ld_blt I1 (hg _ _) hm PySem.W.ni_boot ⟨_, H1, rfl, I1, G', st'⟩
  · obtain ⟨σ', H', rfl, J, G', st'⟩ := hs
    exact ⟨rfl, .non, H', J.os, J.bare, J.base, J.hok, rfl, G', st'⟩
  · refine wpAny_mono hs (fun e s'' z => ?_) fun e s'' z => ?_
    · obtain ⟨_, _, _, _, _, _, _, _, _, _, _, _, z⟩ := z
      exact z.elim
    · obtain ⟨_, _, _, _, _, _, _, _, _, _, _, _, z⟩ := z
      exact z.elim
/-- the caller's view -/
theorem run_ni {X : Cx} {A : Around} {pins : List (Addr × Obj)} {σ : L2.St} {s : Shared} {H G : Hp} {us : List Value} {vs : List V} {xs : List PV} {E' : Value → Shared → Prop} (F : NiOk X.prog X.w X.K X.mg X.base k f fd ps ok) (hr : Room k A) (e0 : Env0 X.prog X.w X.K X.mg X.base A X.stack s H) (hb : Binds X.K fd ps [])
    (I : Inv X pins σ H s) (r : Vals vs us) (sm : Same G H) (rx : Reps X.K G xs vs) (hl : xs.length = ps.length) (hok : ok xs) :
    wpAny (model X.prog X.w) A (call (.ref f) us) (fun v s' => v = .notImplemented ∧ ∃ G' H', Step G H G' H' ∧ Inv X pins σ H' s') E' s := by
  have hlu : us.length = ps.length := by rw [← r.length, ← rx.length]; exact hl
  have bb := hb s us I.kIn (by rw [List.append_nil]; exact hlu)
  rw [List.append_nil] at bb
  refine wpAny_call (codeAny_mono (F A X.stack s H G us vs xs hr e0 bb r sm rx hl hok) fun r s' hq => ?_)
  cases r with
  | error e => exact hq.elim
  | ok fl =>
    cases fl with
    | ret u =>
      obtain ⟨rfl, hq⟩ := hq
      obtain ⟨v, H', I', rv, G', st⟩ := I.after hq
      exact ⟨rfl, G', H', st, I'⟩
    | next => exact hq.elim
    | brk => exact hq.elim
    | cont => exact hq.elim
end
end QL

set_option maxHeartbeats 2000000
namespace QL
open PySem PySem.Spec PyProof.Rows L2
/-! ### operators between an own class and another class -/
/-- an own class's method for op, its reflected one -/
structure OpC (K : PySem.W.Frag) (C : Addr) (op : Operator) (f : Addr) : Prop where
  sf : PySem.W.selfFirst K C = true
  fi : PySem.W.findIn K (.ref C) (PySem.dunder op.info.2) = some (some (.ref f))
  fn : PySem.W.isFn K (.ref f) = true
  re : ∃ rc, PySem.W.findIn K (.ref C) (dunderR op.info.2) = some rc ∧ (rc = none ∨ ∃ g : Addr, rc = some (.ref g))
structure OpI (K : PySem.W.Frag) (C : Addr) (op : Operator) : Prop where
  f1 : ∃ fo, PySem.W.findIn K (.type "int") (PySem.dunder op.info.2) = some fo
  f2 : ∃ ro, PySem.W.findIn K (.type "int") (dunderR op.info.2) = some ro
  sub : PySem.W.subIn K (.type "int") (.ref C) = some false
structure OpD (K : PySem.W.Frag) (C D : Addr) : Prop where
  ne : (Value.ref C == Value.ref D) = false
  sub : PySem.W.subIn K (.ref D) (.ref C) = some false
theorem kito_nil {K : PySem.W.Frag} {cv : Value} : KitO K cv [] := fun _ h => nomatch h
theorem kito_cons {K : PySem.W.Frag} {cv : Value} {C : Addr} {os : List Addr} (h : IsC K C ∧ PySem.W.kitOne K (.ref C) cv = some false) (t : KitO K cv os) : KitO K cv (C :: os) := fun D hD => by
  rcases List.mem_cons.mp hD with rfl | hD
  · exact h
  · exact t D hD
theorem nfo_nil {K : PySem.W.Frag} {D : Addr} : ∀ C ∈ ([] : List Addr), IsC K C ∧ PySem.W.notFirst K D (.ref C) = true := fun _ h => nomatch h
theorem nfo_cons {K : PySem.W.Frag} {D C : Addr} {os : List Addr} (h : IsC K C ∧ PySem.W.notFirst K D (.ref C) = true) (t : ∀ C ∈ os, IsC K C ∧ PySem.W.notFirst K D (.ref C) = true) : ∀ B ∈ C :: os, IsC K B ∧ PySem.W.notFirst K D (.ref B) = true := fun B hB => by
  rcases List.mem_cons.mp hB with rfl | hB
  · exact h
  · exact t B hB
section
variable {X : Cx} {W : WX} {a b : Expr} {qa qb : QE} {pos : Pos} {k : Nat} {f g C D : Addr} {fd : FuncData} {ps : List Str} {P : PSpec} {op : Operator}
def qBinI (C : Addr) (P : PSpec) (qa qb : QE) : QE := fun ρ y Q => qa ρ y fun x => qb ρ y fun z => match x, z with
  | .obj C1 fs, .int i => C1 = C ∧ P [.obj C1 fs, .int i] y Q
  | _, _ => False
def qBinC (C D : Addr) (P : PSpec) (qa qb : QE) : QE := fun ρ y Q => qa ρ y fun x => qb ρ y fun z => match x, z with
  | .obj C1 fs, .obj C2 gs => C1 = C ∧ C2 = D ∧ P [.obj C1 fs, .obj C2 gs] y Q
  | _, _ => False
/-- the right one an int or of D -/
def qBin2 (C D : Addr) (P : PSpec) (qa qb : QE) : QE := fun ρ y Q => qa ρ y fun x => qb ρ y fun z => match x, z with
  | .obj C1 fs, .int i => C1 = C ∧ P [.obj C1 fs, .int i] y Q
  | .obj C1 fs, .obj C2 gs => C1 = C ∧ C2 = D ∧ P [.obj C1 fs, .obj C2 gs] y Q
  | _, _ => False
def qRInt (D : Addr) (P : PSpec) (qa qb : QE) : QE := fun ρ y Q => qa ρ y fun x => qb ρ y fun z => match x, z with
  | .int i, .obj C2 gs => C2 = D ∧ P [.obj C2 gs, .int i] y Q
  | _, _ => False
def qRC (C D : Addr) (P : PSpec) (qa qb : QE) : QE := fun ρ y Q => qa ρ y fun x => qb ρ y fun z => match x, z with
  | .obj C1 fs, .obj C2 gs => C1 = C ∧ C2 = D ∧ P [.obj C2 gs, .obj C1 fs] y Q
  | _, _ => False
theorem je_bin2 (o : OpC X.K C op f) (oi : OpI X.K C op) (od : OpC X.K D op g) (ne : OpD X.K C D) (F : FnOk X.prog X.w X.K X.mg X.base (L2.CX X.prog X.w) k f fd ps (spP X.K P)) (hr : Room k X.A) (hb : Binds X.K fd ps [])
    (tk : Tk X W) (h1 : JE X W a qa) (h2 : JE X W b qb) : JE X W (.BinOp a op b pos) (qBin2 C D P qa qb) := by
  obtain ⟨rc, hrc, hpc⟩ := o.re
  obtain ⟨rd, hrd, hpd⟩ := od.re
  obtain ⟨fo, e1⟩ := oi.f1
  obtain ⟨ro, e2⟩ := oi.f2
  refine ⟨fun pins s σ H Qh I ⟨Gb, Hb, ρ, G, y, Q, R, E, q, kk⟩ => ?_⟩
  refine wpAny_BinOp (binT h1 h2 I (snd_two R E q) fun v u s2 x z H2 I2 rx rz ⟨G2, x', z', st, r1, r2, q2⟩ => ?_)
  split at q2
  · obtain ⟨rfl, q2⟩ := q2
    cases r1 with
    | @obj _ a1 _ _ _ g1 f1 =>
      cases r2
      cases (show v = Value.ref a1 from rx)
      obtain ⟨t, rfl⟩ := (show ∃ t, u = Value.int _ t from rz)
      obtain ⟨od1, J⟩ := inst_of I2 (st.gh _ _ g1)
      obtain ⟨m, hF⟩ := I2.fr
      refine PySem.W.ksp_binT (T := "int") hF I2.ok.mod.kin J rfl o.sf o.fi o.fn hrc hpc e1 e2 oi.sub ?_
      refine wpAny_mono (run_fnSD (E := WE W) (us := [.ref a1, .int _ t]) (vs := [.ref a1, .int _]) F hr hb .nil (tk σ) I2 (.cons rfl (.cons ⟨t, rfl⟩ .nil)) (sp_call (dps := []) E st (.cons (.obj g1 f1) (.cons (.int _) .nil)) .nil q2 kk)) (fun w s' z => ?_) fun _ _ x => x
      obtain ⟨z', H', I', rz, qz⟩ := z
      exact SlX.cmpback rz ⟨z', H', I', rz, qz⟩
  · obtain ⟨rfl, rfl, q2⟩ := q2
    cases r1 with
    | @obj _ a1 _ _ _ g1 f1 =>
      cases r2 with
      | @obj _ a2 _ _ _ g2 f2 =>
        cases (show v = Value.ref a1 from rx)
        cases (show u = Value.ref a2 from rz)
        obtain ⟨od1, J⟩ := inst_of I2 (st.gh _ _ g1)
        obtain ⟨od2, J'⟩ := inst_of I2 (st.gh _ _ g2)
        obtain ⟨m, hF⟩ := I2.fr
        refine PySem.W.binop_C2 hF I2.ok.mod.kin J J' o.sf od.sf o.fi o.fn hrc hpc od.fi hrd hpd ne.ne ne.sub ?_
        refine wpAny_mono (run_fnSD (E := WE W) (us := [.ref a1, .ref a2]) (vs := [.ref a1, .ref a2]) F hr hb .nil (tk σ) I2 (.cons rfl (.cons rfl .nil)) (sp_call (dps := []) E st (.cons (.obj g1 f1) (.cons (.obj g2 f2) .nil)) .nil q2 kk)) (fun w s' z => ?_) fun _ _ x => x
        obtain ⟨z', H', I', rz, qz⟩ := z
        exact SlX.cmpback rz ⟨z', H', I', rz, qz⟩
  · exact q2.elim
theorem je_binI (o : OpC X.K C op f) (oi : OpI X.K C op) (F : FnOk X.prog X.w X.K X.mg X.base (L2.CX X.prog X.w) k f fd ps (spP X.K P)) (hr : Room k X.A) (hb : Binds X.K fd ps [])
    (tk : Tk X W) (h1 : JE X W a qa) (h2 : JE X W b qb) : JE X W (.BinOp a op b pos) (qBinI C P qa qb) := by
  obtain ⟨rc, hrc, hpc⟩ := o.re
  obtain ⟨fo, e1⟩ := oi.f1
  obtain ⟨ro, e2⟩ := oi.f2
  refine ⟨fun pins s σ H Qh I ⟨Gb, Hb, ρ, G, y, Q, R, E, q, kk⟩ => ?_⟩
  refine wpAny_BinOp (binT h1 h2 I (snd_two R E q) fun v u s2 x z H2 I2 rx rz ⟨G2, x', z', st, r1, r2, q2⟩ => ?_)
  split at q2
  · obtain ⟨rfl, q2⟩ := q2
    cases r1 with
    | @obj _ a1 _ _ _ g1 f1 =>
      cases r2
      cases (show v = Value.ref a1 from rx)
      obtain ⟨t, rfl⟩ := (show ∃ t, u = Value.int _ t from rz)
      obtain ⟨od1, J⟩ := inst_of I2 (st.gh _ _ g1)
      obtain ⟨m, hF⟩ := I2.fr
      refine PySem.W.ksp_binT (T := "int") hF I2.ok.mod.kin J rfl o.sf o.fi o.fn hrc hpc e1 e2 oi.sub ?_
      refine wpAny_mono (run_fnSD (E := WE W) (us := [.ref a1, .int _ t]) (vs := [.ref a1, .int _]) F hr hb .nil (tk σ) I2 (.cons rfl (.cons ⟨t, rfl⟩ .nil)) (sp_call (dps := []) E st (.cons (.obj g1 f1) (.cons (.int _) .nil)) .nil q2 kk)) (fun w s' z => ?_) fun _ _ x => x
      obtain ⟨z', H', I', rz, qz⟩ := z
      exact SlX.cmpback rz ⟨z', H', I', rz, qz⟩
  · exact q2.elim
theorem je_binC (o : OpC X.K C op f) (od : OpC X.K D op g) (ne : OpD X.K C D) (F : FnOk X.prog X.w X.K X.mg X.base (L2.CX X.prog X.w) k f fd ps (spP X.K P)) (hr : Room k X.A) (hb : Binds X.K fd ps [])
    (tk : Tk X W) (h1 : JE X W a qa) (h2 : JE X W b qb) : JE X W (.BinOp a op b pos) (qBinC C D P qa qb) := by
  obtain ⟨rc, hrc, hpc⟩ := o.re
  obtain ⟨rd, hrd, hpd⟩ := od.re
  refine ⟨fun pins s σ H Qh I ⟨Gb, Hb, ρ, G, y, Q, R, E, q, kk⟩ => ?_⟩
  refine wpAny_BinOp (binT h1 h2 I (snd_two R E q) fun v u s2 x z H2 I2 rx rz ⟨G2, x', z', st, r1, r2, q2⟩ => ?_)
  split at q2
  · obtain ⟨rfl, rfl, q2⟩ := q2
    cases r1 with
    | @obj _ a1 _ _ _ g1 f1 =>
      cases r2 with
      | @obj _ a2 _ _ _ g2 f2 =>
        cases (show v = Value.ref a1 from rx)
        cases (show u = Value.ref a2 from rz)
        obtain ⟨od1, J⟩ := inst_of I2 (st.gh _ _ g1)
        obtain ⟨od2, J'⟩ := inst_of I2 (st.gh _ _ g2)
        obtain ⟨m, hF⟩ := I2.fr
        refine PySem.W.binop_C2 hF I2.ok.mod.kin J J' o.sf od.sf o.fi o.fn hrc hpc od.fi hrd hpd ne.ne ne.sub ?_
        refine wpAny_mono (run_fnSD (E := WE W) (us := [.ref a1, .ref a2]) (vs := [.ref a1, .ref a2]) F hr hb .nil (tk σ) I2 (.cons rfl (.cons rfl .nil)) (sp_call (dps := []) E st (.cons (.obj g1 f1) (.cons (.obj g2 f2) .nil)) .nil q2 kk)) (fun w s' z => ?_) fun _ _ x => x
        obtain ⟨z', H', I', rz, qz⟩ := z
        exact SlX.cmpback rz ⟨z', H', I', rz, qz⟩
  · exact q2.elim
/-- n * x -/
theorem je_rint {e : Addr} (hd : PySem.W.selfFirst X.K D = true) (hsD : PySem.W.findIn X.K (.ref D) "__mul__" = some (some (.ref e))) (hrD : PySem.W.findIn X.K (.ref D) "__rmul__" = some (some (.ref f))) (hg : PySem.W.isFn X.K (.ref f) = true) (hsub : PySem.W.subIn X.K (.ref D) (.type "int") = some false)
    (F : FnOk X.prog X.w X.K X.mg X.base (L2.CX X.prog X.w) k f fd ps (spP X.K P)) (hr : Room k X.A) (hb : Binds X.K fd ps []) (tk : Tk X W) (h1 : JE X W a qa) (h2 : JE X W b qb) : JE X W (.BinOp a .Mult b pos) (qRInt D P qa qb) := by
  refine ⟨fun pins s σ H Qh I ⟨Gb, Hb, ρ, G, y, Q, R, E, q, kk⟩ => ?_⟩
  refine wpAny_BinOp (binT h1 h2 I (snd_two R E q) fun v u s2 x z H2 I2 rx rz ⟨G2, x', z', st, r1, r2, q2⟩ => ?_)
  split at q2
  · obtain ⟨rfl, q2⟩ := q2
    cases r2 with
    | @obj _ a1 _ _ _ g1 f1 =>
      cases r1
      cases (show u = Value.ref a1 from rz)
      obtain ⟨t, rfl⟩ := (show ∃ t, v = Value.int _ t from rx)
      obtain ⟨od1, J⟩ := inst_of I2 (st.gh _ _ g1)
      obtain ⟨m, hF⟩ := I2.fr
      refine PySem.W.rbinop_int hF I2.ok.mod.kin J rfl hd hsD hrD hg hsub ?_
      refine wpAny_mono (run_fnSD (E := WE W) (us := [.ref a1, .int _ t]) (vs := [.ref a1, .int _]) F hr hb .nil (tk σ) I2 (.cons rfl (.cons ⟨t, rfl⟩ .nil)) (sp_call (dps := []) E st (.cons (.obj g1 f1) (.cons (.int _) .nil)) .nil q2 kk)) (fun w s' z => ?_) fun _ _ x => x
      obtain ⟨z', H', I', rz, qz⟩ := z
      exact SlX.cmpback rz ⟨z', H', I', rz, qz⟩
  · exact q2.elim
/-- x * y, the left class declines -/
theorem je_rC {e : Addr} {k1 : Nat} {fd1 : FuncData} {ps1 : List Str} {ok : List PV → Prop} (o : OpC X.K C op e) (hd : PySem.W.selfFirst X.K D = true) (hsD : PySem.W.findIn X.K (.ref D) (PySem.dunder op.info.2) = some (some (.ref g))) (hrD : PySem.W.findIn X.K (.ref D) (dunderR op.info.2) = some (some (.ref f))) (hg : PySem.W.isFn X.K (.ref f) = true) (ne : OpD X.K C D)
    (N1 : NiOk X.prog X.w X.K X.mg X.base k1 e fd1 ps1 ok) (hr1 : Room k1 X.A) (hb1 : Binds X.K fd1 ps1 []) (hl1 : ps1.length = 2) (hok : ∀ fs gs, ok [.obj C fs, .obj D gs])
    (F : FnOk X.prog X.w X.K X.mg X.base (L2.CX X.prog X.w) k f fd ps (spP X.K P)) (hr : Room k X.A) (hb : Binds X.K fd ps []) (tk : Tk X W) (h1 : JE X W a qa) (h2 : JE X W b qb) : JE X W (.BinOp a op b pos) (qRC C D P qa qb) := by
  obtain ⟨rc, hrc, hpc⟩ := o.re
  refine ⟨fun pins s σ H Qh I ⟨Gb, Hb, ρ, G, y, Q, R, E, q, kk⟩ => ?_⟩
  refine wpAny_BinOp (binT h1 h2 I (snd_two R E q) fun v u s2 x z H2 I2 rx rz ⟨G2, x', z', st, r1, r2, q2⟩ => ?_)
  split at q2
  · obtain ⟨rfl, rfl, q2⟩ := q2
    cases r1 with
    | @obj _ a1 _ _ _ g1 f1 =>
      cases r2 with
      | @obj _ a2 _ _ _ g2 f2 =>
        cases (show v = Value.ref a1 from rx)
        cases (show u = Value.ref a2 from rz)
        obtain ⟨od1, J⟩ := inst_of I2 (st.gh _ _ g1)
        obtain ⟨od2, J'⟩ := inst_of I2 (st.gh _ _ g2)
        obtain ⟨m, hF⟩ := I2.fr
        refine PySem.W.rbinop_C (rd := none) hF I2.ok.mod.kin J J' o.sf hd o.fi o.fn hrc hpc hsD hrD hg ne.ne ne.sub ?_
        refine wpAny_mono (run_ni (us := [.ref a1, .ref a2]) (vs := [.ref a1, .ref a2]) N1 hr1 I2.env0 hb1 I2 (.cons rfl (.cons rfl .nil)) st.gh (.cons (.obj g1 f1) (.cons (.obj g2 f2) .nil)) hl1.symm (hok _ _)) (fun w s' z => ?_) fun _ _ x => x
        obtain ⟨rfl, G3, H3, st3, I3⟩ := z
        have st13 := st.trans st3
        obtain ⟨od3, J3⟩ := inst_of I3 (st13.gh _ _ (st3.gg _ _ g1))
        obtain ⟨od4, J4⟩ := inst_of I3 (st13.gh _ _ (st3.gg _ _ g2))
        refine ⟨rfl, I3.fr, ⟨_, _, J3⟩, ⟨_, _, J4⟩, ?_⟩
        refine wpAny_mono (run_fnSD (E := WE W) (us := [.ref a2, .ref a1]) (vs := [.ref a2, .ref a1]) F hr hb .nil (tk σ) I3 (.cons rfl (.cons rfl .nil)) (sp_call (dps := []) E st13 (.cons (Rep.mono st3.gg (.obj g2 f2)) (.cons (Rep.mono st3.gg (.obj g1 f1)) .nil)) .nil q2 kk)) (fun w s' z => ?_) fun _ _ x => x
        obtain ⟨z', H', I', rz, qz⟩ := z
        exact SlX.cmpback rz ⟨z', H', I', rz, qz⟩
  · exact q2.elim
end
end QL

set_option maxHeartbeats 2000000
namespace QL
open PySem PySem.Spec PyProof.Rows L2
section
variable {X : Cx} {W : WX} {k : Nat} {f C : Addr} {fd : FuncData} {ps : List Str} {P : PSpec} {qa qb : QE} {qs : QA} {a b : Expr} {p pos apos : Pos} {dvs : List V} {dps : List PV} {ds : List Value} {e : Expr} {es : List Expr}
/-! ### len and [..] of an own class -/
def rLenO (K : PySem.W.Frag) (C : Addr) (P : PSpec) : List V → Hp → VK → Prop := fun xs H Q => ∃ a dx gs, xs = [.ref a] ∧ H a = some (.ins C dx gs) ∧ spP K P [.ref a] H (fun v H' => ∃ i : Int, v = .int i ∧ 0 ≤ i ∧ i < 2 ^ 63 ∧ Q (.int i) H') E0
def cLenO (C : Addr) (P : PSpec) : Q1 := fun xs Q => match xs with
  | [.obj C1 fs] => C1 = C ∧ P [.obj C1 fs] (fun _ => False) fun r => match r with
    | .int i => 0 ≤ i ∧ i < 2 ^ 63 ∧ Q (.int i)
    | _ => False
  | _ => False
theorem call_lenO (hs : PySem.W.findIn X.K (.ref C) "__len__" = some (some (.ref f))) (hf : PySem.W.isFn X.K (.ref f) = true) (F : FnOk X.prog X.w X.K X.mg X.base (L2.CX X.prog X.w) k f fd ps (spP X.K P)) (hr : Room (k + 1) X.A) (hb : Binds X.K fd ps []) : CallR X (.builtin "len") (rLenO X.K C P) := by
  intro pins s σ H xs us Q I r h
  obtain ⟨a, dx, gs, rfl, ha, q⟩ := h
  obtain ⟨u, rfl, ru⟩ := vals1 r
  cases (show u = Value.ref a from ru)
  obtain ⟨od, J⟩ := inst_of I ha
  refine PySem.W.lenO_K I.kIn J hs hf (wpAny_mono (run_in (E' := X.xe) F hr.in1 I.env0.in1 hb I (ws := [.ref a]) (us := [.ref a]) (.cons rfl .nil) q) (fun v s' z => ?_) fun _ _ z => z)
  obtain ⟨v', H', I', rv, i, rfl, h0, h1, q'⟩ := z
  obtain ⟨t, rfl⟩ := (show ∃ t, v = Value.int i t from rv)
  exact ⟨i, t, rfl, h0, h1, fun t' tk => ⟨.int i, H', I'.tok tk, ⟨t', rfl⟩, q'⟩⟩
theorem snd_lenO {K : PySem.W.Frag} : SndC K (rLenO K C P) (cLenO C P) := by
  intro xs vs G H Q Qh hs r q kk
  unfold cLenO at q
  split at q
  · obtain ⟨rfl, q⟩ := q
    obtain ⟨v, rfl, h⟩ := rep1 r
    cases h with
    | @obj _ a1 _ _ _ g1 f1 =>
      refine ⟨a1, _, _, rfl, hs _ _ g1, G, _, fun _ => False, _, hs, .cons (.obj g1 f1) .nil, q, fun x v G' H' st r' q' => ?_, fun _ _ _ _ _ _ z => z⟩
      split at q'
      · cases r'
        exact ⟨_, rfl, q'.1, q'.2.1, kk _ _ G' H' st (.int _) q'.2.2⟩
      · exact q'.elim
  · exact q.elim
theorem je_lenOwn (hs : PySem.W.findIn X.K (.ref C) "__len__" = some (some (.ref f))) (hf : PySem.W.isFn X.K (.ref f) = true) (F : FnOk X.prog X.w X.K X.mg X.base (L2.CX X.prog X.w) k f fd ps (spP X.K P)) (hr : Room (k + 1) X.A) (hb : Binds X.K fd ps [])
    (hm : X.mg "len" = none) (ha : JA X W [e] qs) (hg : Gl X "len" := by rfl) (he : starEach [e] X.env = (false, eval e X.env) :: starEach [] X.env := by rfl) : JE X W (.Call (.Name "len" p) [e] [] pos) (qCB (cLenO C P) qs) :=
  je_cb (call_lenO hs hf F hr hb) snd_lenO hm (by decide +kernel) ha hg (by decide) (by decide) he
def qIxOwn (C : Addr) (P : PSpec) (qa qb : QE) : QE := fun ρ y Q => qa ρ y fun x => qb ρ y fun z => match x with
  | .obj C1 fs => C1 = C ∧ P [.obj C1 fs, z] (fun _ => False) Q
  | _ => False
theorem je_ixOwn (hs : PySem.W.findIn X.K (.ref C) "__getitem__" = some (some (.ref f))) (hfn : PySem.W.fnIn X.K f = true) (hf : PySem.W.isFn X.K (.ref f) = true) (F : FnOk X.prog X.w X.K X.mg X.base (L2.CX X.prog X.w) k f fd ps (spP X.K P)) (hr : Room (k + 1) X.A) (hb : Binds X.K fd ps [])
    (h1 : JE X W a qa) (h2 : JE X W b qb) (hsl : ∀ o i, subscripted b true o i = runValue (.builtin "lifetime.subscript" ⟨[o, i], []⟩) := by intro _ _; with_unfolding_all rfl) : JE X W (.Subscript a b pos) (qIxOwn C P qa qb) := by
  refine ⟨fun pins s σ H Qh I ⟨Gb, Hb, ρ, G, y, Q, R, E, q, kk⟩ => ?_⟩
  refine Subscript_ (binT h1 h2 I (snd_two R E q) fun v u s2 x z H2 I2 rx rz ⟨G2, x', z', st, r1, r2, q2⟩ => ?_)
  split at q2
  · obtain ⟨rfl, q2⟩ := q2
    cases r1 with
    | @obj _ a1 _ _ _ g1 f1 =>
      cases (show v = Value.ref a1 from rx)
      obtain ⟨od, J⟩ := inst_of I2 (st.gh _ _ g1)
      obtain ⟨m, hF⟩ := I2.fr
      refine PySem.W.sub_K hF I2.ok.mod.kin J hs hfn hf ?_ (hsl _ _)
      exact run_in (E' := X.xe) F hr.in1 I2.env0.in1 hb I2 (ws := [.ref a1, z]) (us := [.ref a1, u]) (.cons rfl (.cons rz .nil)) ⟨G2, _, fun _ => False, Q, st.gh, .cons (.obj g1 f1) (.cons r2 .nil), q2, fun x v G' H' s r q => kk x v G' H' (st.trans s) r q, fun _ _ _ _ _ _ z => z⟩
  · exact q2.elim
/-! ### C.m(..), a static method -/
structure StatC (K : PySem.W.Frag) (C : Addr) (m : Str) (f : Addr) : Prop where
  ga : PySem.W.specialIn K (.ref C) "__getattribute__" = some (some (.builtin "type.__getattribute__"))
  ty : PySem.W.typeIn K (.ref C) = some (.type "type")
  rd : PySem.W.readsIn K C (.type "type") = true
  ex : ∃ (p : Addr) (rest : List Value), PySem.W.findCls K (.ref C) (.type "type") m = some (.get (.builtin "staticmethod.__get__") (.ref p) .none (.ref C)) ∧ PySem.W.recIn K p "staticmethod" = some (.ref f :: rest)
theorem je_stat {pl : Sem Bool} {x m : Str} (hm : X.mg x = some (.ref C)) (S : StatC X.K C m f) (hk : PySem.W.keepIn X.K (.ref f) = true) (F : FnOk X.prog X.w X.K X.mg X.base (L2.CX X.prog X.w) k f fd ps (spP X.K P)) (hr : Room k X.A) (hb : Binds X.K fd ps ds) (hd : Vals dvs ds) (hds : ∀ G, Reps X.K G dps dvs)
    (tk : Tk X W) (ha : JA X W (e :: es) qs) (hg : Gl X x := by rfl) (hdb : (x == ("__debug__" : Str)) = false := by decide)
    (hst : starEach (e :: es) X.env = (false, eval e X.env) :: starEach es X.env := by rfl) (hpl : (backTo pos (starEach es X.env)).any (·.1) = false := by rfl)
    (ht : eval (.Call (.Attribute (.Name x p) m apos) (e :: es) [] pos) X.env = (do
      let ov ← eval (.Name x p) X.env
      standAt apos.atName
      let (f, first) ← holding [ov] (getMethod ov m pl)
      callWith pos f first (backTo pos (starEach (e :: es) X.env)) (backToKw pos (keywordEach [] X.env))) := by rfl) :
    JE X W (.Call (.Attribute (.Name x p) m apos) (e :: es) [] pos) (qCall P dps qs) := by
  obtain ⟨pa, rest, e1, e2⟩ := S.ex
  refine ⟨fun pins s σ H Qh I ⟨Gb, Hb, ρ, G, y, Q, R, E, q, kk⟩ => ?_⟩
  refine PySem.W.methodCall_KW (pl := pl) (ld_glob I hg hm ?_ hdb) ht
  obtain ⟨m', hF⟩ := I.fr
  refine PySem.W.method_of_cls hF I.ok.mod.kin S.ga (PySem.W.cls_sm hF I.ok.mod.kin S.ty S.rd e1 e2 rfl ?_)
  have I1 := I.tok (s.toks + 1)
  refine PySem.W.callWith_K (first := []) (h₀ := X.base) I.ok.mod.kin hk (thn (ha.run pos pins _ σ H (fun vs H2 => ∃ G2 xs, Step G H G2 H2 ∧ Reps X.K G2 xs vs ∧ P (xs ++ dps) y Q) I1 ⟨Gb, Hb, ρ, G, y, _, R, E, q, fun xs vs G2 H2 s2 r2 q2 => ⟨G2, xs, s2, r2, q2⟩⟩) fun us s2 ⟨vs, H2, I2, r, G2, xs, st2, r2, q2⟩ => ⟨I2.kIn, ?_⟩) hst hpl
  exact run_fnSD (E := WE W) (us := us) (vs := vs) F hr hb hd (tk σ) I2 r (sp_call (xs := xs) E st2 r2 (hds G2) q2 kk)
/-! ### an own list, lent -/
def noL : PV → Bool
  | .lst _ => false
  | .tup xs => noLs xs
  | .obj _ fs => noLf fs
  | _ => true
where
  noLs : List PV → Bool
    | [] => true
    | x :: r => noL x && noLs r
  noLf : List (Str × PV) → Bool
    | [] => true
    | (_, x) :: r => noL x && noLf r
end
end QL

set_option maxHeartbeats 2000000
namespace QL
open PySem PySem.Spec PyProof.Rows L2
/-! ### an own list is lent to an expression -/
section
variable {K : PySem.W.Frag} {Gb Hb G H : Hp} {ρ : PSt} {σ : L2.St}
/-- the frozen state, told -/
theorem RelS.lend (r : RelS K Gb Hb ρ σ G H) {i : Nat} {xs : List PV} (e : ρ[i]? = some (some (.own xs))) : ∃ (a : Addr) (vs : List V), H a = some (.lst vs) ∧ G a = none ∧ Hb a = none ∧ RelS K Gb Hb (ρ.set i (some (.pv (.lst xs)))) σ (upd G a (.lst vs)) H := by
  obtain ⟨a, vs, q1, q2, q3, q4, q5⟩ := r.own i xs e
  have gg : Same G (upd G a (.lst vs)) := fun b o z => by rw [upd_ne (ne_of_none z q4)]; exact z
  refine ⟨a, vs, q2, q4, q5, ⟨⟨r.step.hh, r.step.gg.trans gg, fun b o z => ?_, fun b o z n => ?_⟩, by simp [r.len], fun j y q => ?_, fun j zs q => ?_, fun j b C fs q => ?_, fun j b d C fs q => ?_, fun j k b1 C b2 D fs gs e1 e2 => ?_, fun j k us zs b e1 e2 s1 s2 => ?_⟩⟩
  · by_cases c : b = a
    · subst c; rw [upd_same] at z; cases z; exact q2
    · rw [upd_ne c] at z; exact r.step.gh _ _ z
  · by_cases c : b = a
    · subst c; exact q5
    · rw [upd_ne c] at z; exact r.step.new b o z n
  · rcases set_get q with ⟨rfl, q, hl⟩ | ⟨n, q⟩
    · cases q
      exact ⟨.ref a, q1, .lst (SqL.of upd_same) (q3.mono gg)⟩
    · obtain ⟨v, h1, h2⟩ := r.val j y q
      exact ⟨v, h1, h2.mono gg⟩
  · rcases set_get q with ⟨rfl, q, hl⟩ | ⟨n, q⟩
    · cases q
    · obtain ⟨b, us, h1, h2, h3, h4, h5⟩ := r.own j zs q
      have hab : b ≠ a := fun z => by
        subst z
        exact n (r.sep i j xs zs b e q q1 h1)
      exact ⟨b, us, h1, h2, h3.mono gg, by rw [upd_ne hab]; exact h4, h5⟩
  · rcases set_get q with ⟨rfl, q, hl⟩ | ⟨n, q⟩
    · cases q
    · obtain ⟨dx, gs, h1, h2, h3, h4, h5⟩ := r.ins j b C fs q
      exact ⟨dx, gs, h1, h2, h3.mono gg, by rw [upd_ne (ne_of h2 q2 (by intro z; cases z))]; exact h4, h5⟩
  · rcases set_get q with ⟨rfl, q, hl⟩ | ⟨n, q⟩
    · cases q
    · obtain ⟨h1, gs, h2, h3⟩ := r.exc j b d C fs q
      exact ⟨h1, gs, h2, h3.mono gg⟩
  · rcases set_get e1 with ⟨rfl, e, hl⟩ | ⟨n1, e1⟩
    · cases e
    · rcases set_get e2 with ⟨rfl, e, hl⟩ | ⟨n2, e2⟩
      · cases e
      · exact r.one j k _ C _ D fs gs e1 e2
  · have f : ∀ {j : Nat} {zs : List PV}, (ρ.set i (some (.pv (.lst xs))))[j]? = some (some (.own zs)) → ρ[j]? = some (some (.own zs)) := fun {j zs} q => by
      rcases set_get q with ⟨rfl, q, hl⟩ | ⟨n, q⟩
      · cases q
      · exact q
    exact r.sep j k us zs b (f e1) (f e2) s1 s2
theorem rd_del {a b : Addr} {vs : List V} {u : HO} (hg : G a = some (.lst vs)) (hu : ∀ ws, u ≠ .lst ws) (h : Rd G b u) : Rd (del G a) b u := by
  have hne : b ≠ a := by
    rintro rfl
    rcases h with h | ⟨o, h⟩
    · rw [hg] at h
      cases h
      exact hu _ rfl
    · rw [hg] at h
      cases h
  rcases h with h | ⟨o, h⟩
  · exact .inl (by rw [del_ne hne]; exact h)
  · exact .inr ⟨o, by rw [del_ne hne]; exact h⟩
theorem rep_all {a : Addr} {ws : List V} (hg : G a = some (.lst ws)) :
    (∀ {x : PV} {v : V}, Rep K G x v → noL x = true → Rep K (del G a) x v) ∧ (∀ {x : List (Str × PV)} {v : List (Str × V)}, RepF K G x v → noL.noLf x = true → RepF K (del G a) x v) := by
  have c1 : ∀ {C b dx : Addr} {fs : List (Str × PV)} {gs : List (Str × V)}, G b = some (.ins C dx gs) → del G a b = some (.ins C dx gs) := fun {C b dx fs gs} ho => by
    rw [del_ne]
    · exact ho
    · rintro rfl
      rw [hg] at ho
      cases ho
  have c2 : ∀ {b : Addr} {us : List V}, SqT K G b us → SqT K (del G a) b us := fun {b us} hq => hq.elim (fun z => .inl (rd_del hg (fun _ z => nomatch z) z)) .inr
  refine ⟨fun {x v} h => Rep.rec (motive_1 := fun x v _ => noL x = true → Rep K (del G a) x v) (motive_2 := fun x v _ => noL.noLs x = true → Reps K (del G a) x v) (motive_3 := fun x v _ => noL.noLf x = true → RepF K (del G a) x v)
      (fun _ => .non) (fun b _ => .bl b) (fun b _ => .int b) (fun b _ => .str b) (fun b _ => .ty b) (fun b _ => .adr b) (fun _ _ _ n => nomatch n) (fun hq _ ih n => .tup (c2 hq) (ih n)) (fun ho _ ih n => .obj (c1 (fs := []) ho) (ih n)) (fun _ => .nil)
      (fun {x v xs vs} _ _ i1 i2 n => by
        have n' : (noL x && noL.noLs xs) = true := n
        rw [Bool.and_eq_true] at n'
        exact .cons (i1 n'.1) (i2 n'.2)) (fun _ => .nil)
      (fun {m x v xs vs} _ _ i1 i2 n => by
        have n' : (noL x && noL.noLf xs) = true := n
        rw [Bool.and_eq_true] at n'
        exact .cons (i1 n'.1) (i2 n'.2)) h,
    fun {x v} h => RepF.rec (motive_1 := fun x v _ => noL x = true → Rep K (del G a) x v) (motive_2 := fun x v _ => noL.noLs x = true → Reps K (del G a) x v) (motive_3 := fun x v _ => noL.noLf x = true → RepF K (del G a) x v)
      (fun _ => .non) (fun b _ => .bl b) (fun b _ => .int b) (fun b _ => .str b) (fun b _ => .ty b) (fun b _ => .adr b) (fun _ _ _ n => nomatch n) (fun hq _ ih n => .tup (c2 hq) (ih n)) (fun ho _ ih n => .obj (c1 (fs := []) ho) (ih n)) (fun _ => .nil)
      (fun {x v xs vs} _ _ i1 i2 n => by
        have n' : (noL x && noL.noLs xs) = true := n
        rw [Bool.and_eq_true] at n'
        exact .cons (i1 n'.1) (i2 n'.2)) (fun _ => .nil)
      (fun {m x v xs vs} _ _ i1 i2 n => by
        have n' : (noL x && noL.noLf xs) = true := n
        rw [Bool.and_eq_true] at n'
        exact .cons (i1 n'.1) (i2 n'.2)) h⟩
theorem rep_del {a : Addr} {ws : List V} (hg : G a = some (.lst ws)) {x : PV} {v : V} (n : noL x = true) (h : Rep K G x v) : Rep K (del G a) x v := (rep_all hg).1 h n
theorem repf_del {a : Addr} {ws : List V} (hg : G a = some (.lst ws)) {x : List (Str × PV)} {v : List (Str × V)} (n : noL.noLf x = true) (h : RepF K G x v) : RepF K (del G a) x v := (rep_all hg).2 h n
theorem step_del {a : Addr} {vs : List V} {G' H' : Hp} (gG : G a = none) (gH : H a = some (.lst vs)) (st : Step (upd G a (.lst vs)) H G' H') : Step G H (del G' a) H' where
  hh := st.hh
  gg := fun b o e => by
    have hne := ne_of_none e gG
    rw [del_ne hne]
    exact st.gg b o (by rw [upd_ne hne]; exact e)
  gh := fun b o e => by
    by_cases c : b = a
    · subst c
      rw [del_same] at e
      cases e
    · rw [del_ne c] at e
      exact st.gh b o e
  new := fun b o e n => by
    by_cases c : b = a
    · subst c
      rw [del_same] at e
      cases e
    · rw [del_ne c] at e
      exact st.new b o e (by rw [upd_ne c]; exact n)
end
def qLend (i : Nat) (q : QE) : QE := fun ρ y Q => match ρ[i]? with
  | some (some (.own xs)) => q (ρ.set i (some (.pv (.lst xs)))) (fun p => noL.noLf p.fs = true ∧ y p) (fun x => noL x = true ∧ Q x)
  | _ => False
def qLendT (i : Nat) (q : QT) : QT := fun ρ y Q => match ρ[i]? with
  | some (some (.own xs)) => q (ρ.set i (some (.pv (.lst xs)))) (fun p => noL.noLf p.fs = true ∧ y p) Q
  | _ => False
section
variable {X : Cx} {W : WX} {e : Expr}
theorem exok_del {K : PySem.W.Frag} {σ : L2.St} {G H : Hp} {a : Addr} {vs : List V} {y : Y} (gG : G a = none) (gH : H a = some (.lst vs)) (E : ExOk K W σ G H y) : ExOk K W σ (upd G a (.lst vs)) H (fun p => noL.noLf p.fs = true ∧ y p) := by
  intro p d G' H' st r ⟨h1, h2⟩
  obtain ⟨gs, e1, e2⟩ := r
  exact E p d (del G' a) H' (step_del gG gH st) ⟨gs, e1, repf_del (st.gg _ _ upd_same) h1 e2⟩ h2
theorem je_lend (i : Nat) {q : QE} (h : JE X W e q) : JE X W e (qLend i q) := by
  refine PE.imp h fun σ H Qh ⟨Gb, Hb, ρ, G, y, Q, R, E, q', k⟩ => ?_
  unfold qLend at q'
  split at q'
  · rename_i xs ex
    obtain ⟨a, vs, h1, h2, h3, R'⟩ := R.lend ex
    refine ⟨Gb, Hb, _, _, _, _, R', exok_del h2 h1 E, q', fun x v G' H' st r ⟨n, qx⟩ => ?_⟩
    exact k x v (del G' a) H' (step_del h2 h1 st) (rep_del (st.gg _ _ upd_same) n r) qx
  · exact q'.elim
theorem jt_lend (i : Nat) {q : QT} (h : JT X W e q) : JT X W e (qLendT i q) := by
  refine PT.imp h fun σ H Qh ⟨Gb, Hb, ρ, G, y, Q, R, E, q', k⟩ => ?_
  unfold qLendT at q'
  split at q'
  · rename_i xs ex
    obtain ⟨a, vs, h1, h2, h3, R'⟩ := R.lend ex
    exact ⟨Gb, Hb, _, _, _, _, R', exok_del h2 h1 E, q', fun b G' H' st qx => k b (del G' a) H' (step_del h2 h1 st) qx⟩
  · exact q'.elim
theorem jw_lend (i : Nat) {q : QT} (h : JW X W e q) : JW X W e (qLendT i q) := by
  refine PW.imp h fun σ H Qh ⟨Gb, Hb, ρ, G, y, Q, R, E, q', k⟩ => ?_
  unfold qLendT at q'
  split at q'
  · rename_i xs ex
    obtain ⟨a, vs, h1, h2, h3, R'⟩ := R.lend ex
    exact ⟨Gb, Hb, _, _, _, _, R', exok_del h2 h1 E, q', fun b G' H' st qx => k b (del G' a) H' (step_del h2 h1 st) qx⟩
  · exact q'.elim
/-- x = list(e), a list that the def will change -/
def qOwnL (i : Nat) (q : QA) : QS := fun D ρ => q ρ (D.ex ρ) fun xs => match xs with
  | [.lst ys] => D.nx (ρ.set i (some (.own ys)))
  | [.tup ys] => D.nx (ρ.set i (some (.own ys)))
  | _ => False
theorem js_ownL (i : Nat) {x : Str} {ee : Expr} {qa : QA} {pos' cp p pos : Pos} (hN : X.N.Nodup) (hm : X.mg "list" = none) (h : JA X W [ee] qa) (hg : Gl X "list" := by rfl) (he : starEach [ee] X.env = (false, eval ee X.env) :: starEach [] X.env := by rfl)
    (hi : X.N[i]? = some x := by rfl) (hx : Loc X.env.scope x := by first | exact Or.inl rfl | exact Or.inr rfl) (hs : swapsWith (.Call (.Name "list" cp) [ee] [] p) (some (.Name x pos')) pos.line X.env = pure false := by rfl)
    (hf : X.fn x = true ∨ X.env.scope.names.lookup x = some .local := by first | exact .inl rfl | exact .inr rfl) : JS X W (.Assign [.Name x pos'] (.Call (.Name "list" cp) [ee] [] p) pos) (qOwnL i qa) := by
  refine PS.imp (ps_set hN hi hx (pe_callTy (x := "list") call_list_of hg hm (by decide +kernel) h (by decide) (by decide) he) hs hf) fun Dh σ H ⟨Gb, Hb, ρ, G, D, R, M, q⟩ => ?_
  refine ⟨Gb, Hb, ρ, G, D.ex ρ, _, R, M.exok R, q, fun xs vs G1 H1 s1 r1 q1 => ?_⟩
  have R1 := R.mono s1
  have fin : ∀ {ys : List PV} {ws : List V} {l : Addr}, H1 l = none → Reps X.K G1 ys ws → D.nx (ρ.set i (some (.own ys))) → Dh.nx (σ.set i (some (.ref l))) (upd H1 l (.lst ws)) := fun {ys ws l} hl hr qn => by
    have R2 := R1.mono (Step.hid (o := .lst ws) R1.gh hl)
    refine M.nx _ _ G1 _ (R2.setOwn i upd_same hr (R1.gh.free hl) (R1.step.hh.free hl) fun j zs ej sj => ?_) qn
    obtain ⟨a, us, e1, e2, _⟩ := R1.own j zs ej
    rw [sj] at e1
    cases e1
    rw [hl] at e2
    cases e2
  split at q1
  · obtain ⟨v, rfl, hv⟩ := rep1 r1
    cases hv with
    | @lst b ws _ hq hr => exact ⟨b, ws, rfl, .inl (s1.gh.seq hq), fun l hl => fin hl hr q1⟩
  · obtain ⟨v, rfl, hv⟩ := rep1 r1
    cases hv with
    | @tup b ws _ hq hr => exact ⟨b, ws, rfl, .inr (Same.sqT s1.gh hq), fun l hl => fin hl hr q1⟩
  · exact q1.elim
end
end QL

set_option maxHeartbeats 2000000
namespace QL
open PySem PySem.Spec PyProof.Rows L2
/-! ### try with several clauses, each with a name -/
def wNm (K : PySem.W.Frag) (Wo : WX) (De : Ends) : List (Value × Nat × (Addr → Value → Option Addr → TS)) → WX
  | [] => Wo
  | (cv, j, tk) :: r => fun cl dd st Hh => ∃ y, PySem.W.exmOne K cl cv = some y ∧ (y = true → ∀ z, Hh z = none → tk z cl dd ⟨fun s' H' => De.nx (s'.set j none) H', De.rt, fun s' H' => De.bk (s'.set j none) H', fun s' H' => De.ct (s'.set j none) H'⟩ (st.set j (some (.ref z))) Hh) ∧ (y = false → wNm K Wo De r cl dd st Hh)
inductive ClsN (X : Cx) : List ExceptHandler → List (Value × Nat × (Addr → Value → Option Addr → TS)) → Prop
  | nil : ClsN X [] []
  | cons {x nn : Str} {cv : Value} {j : Nat} {tk : Addr → Value → Option Addr → TS} {first : Stmt} {more : List Stmt} {p1 p2 : Pos} {hr : List ExceptHandler} {lr : List (Value × Nat × (Addr → Value → Option Addr → TS))} (named : Names X x cv) (at_ : X.N[j]? = some nn) (loc : X.env.kindOf nn = some .local)
      (does : ∀ (z : Addr) (oz : Obj) (cl : Value) (dd : Option Addr) (pins : List (Addr × Obj)), Zc cl dd oz → (∃ vs, oz.data = .fields vs) → PSs (X.suite z ((z, oz) :: pins)) (first :: more) (tk z cl dd)) (tail : ClsN X hr lr) :
      ClsN X (.ExceptHandler (some (.Name x p1)) (some nn) (first :: more) p2 :: hr) ((cv, j, tk) :: lr)
section
variable {X : Cx} {inner : List Stmt} {h1 : ExceptHandler} {hr : List ExceptHandler} {ll : List (Value × Nat × (Addr → Value → Option Addr → TS))} {tpos : Pos} {tb : WX → TS} {Wo : WX}
theorem ps_tryN (st : X.stack = X.env :: X.outer) (fr : X.env.frame = some X.env.locals) (nd : X.N.Nodup) (takes : Takes X Wo)
    (body : ∀ (W : WX) (pins : List (Addr × Obj)) (xe : Value → Shared → Prop), Takes (X.tr pins xe) W → PassesOwn (model X.prog X.w) X.A X.env xe → PSs (X.tr pins xe) inner (tb W))
    (cl : ClsN X (h1 :: hr) ll) : PS X (.Try inner (h1 :: hr) [] [] tpos) (fun De sg Hh => tb (wNm X.K Wo De ll) De sg Hh) := by
  refine ⟨fun pins sA sg Hh De Iv wish => ?_⟩
  have okX := Iv.ok
  have frames : X.A.frames = some (X.env :: X.outer) := okX.frames.trans (congrArg some st)
  refine wpAny_Try_except (wpAny_mono ((body (wNm X.K Wo De ll) (X.pn ++ pins) _ (fun u sB air => ?air) PassesOwn.looking).run [] sA sg Hh De (Iv.toTry _) wish) (fun fl sB good => ?good) fun _ _ z => z)
  case good =>
    cases fl with
    | next => obtain ⟨s', H', I', w'⟩ := good; exact wpAny_execs_nil ⟨s', H', I'.ofTry okX, w'⟩
    | brk => obtain ⟨s', H', I', w'⟩ := good; exact ⟨s', H', I'.ofTry okX, w'⟩
    | cont => obtain ⟨s', H', I', w'⟩ := good; exact ⟨s', H', I'.ofTry okX, w'⟩
    | ret u => obtain ⟨v', s', H', I', rv, w'⟩ := good; exact ⟨v', s', H', I'.ofTry okX, rv, w'⟩
  case air =>
    obtain ⟨z, Bh, sC, pinsC, sg', Hc, clv, dd, rfl, Itry, kept, grown, sky, free, sameOs, bare, wish'⟩ := air
    have Ic : Inv X pins sg' Hc sC := Itry.ofTry okX
    have skyX : Sky Bh (X.env :: X.outer) z (Zc clv dd) X.env.locals sB.heap := by rw [← st]; exact sky
    show wpAny (model X.prog X.w) X.A (noteFrame (.ref z) X.env) _ _ _
    refine Sky.land Zc.steady frames fr skyX fun hA flA upA => ?_
    have IA : Inv X pins sg' Hc { sB with heap := hA } := Ic.landed kept flA.1 (grown.trans upA) sameOs bare
    obtain ⟨oA, vA, getA, zcA, datA⟩ := flA.there
    have notFrame : ∀ {hh : Heap} {ob : Obj} {vs : Array Value}, hh.FunFrames Bh (X.env :: X.outer) → hh.get? z = some ob → ob.data = .fields vs → z ∉ frs (X.env :: X.outer) := by
      intro hh ob vs ff ge de hm
      obtain ⟨_, ob', ge', nf⟩ := ff.mem hm
      cases ge.symm.trans ge'
      exact nf _ de
    have nfz := notFrame flA.2.2.1 getA datA
    have nloc : z ≠ X.env.locals := by
      intro q
      exact nfz (List.mem_filterMap.mpr ⟨X.env, List.mem_cons_self, fr.trans (congrArg some q.symm)⟩)
    have nfs : z ∉ X.fs := by
      intro hm
      obtain ⟨ev, me, qe⟩ := List.mem_filterMap.mp hm
      exact nfz (List.mem_filterMap.mpr ⟨ev, List.mem_cons_of_mem _ me, qe⟩)
    have SA := IA.suite getA datA free nloc nfs
    have go : ∀ {hs2 : List ExceptHandler} {l2 : List (Value × Nat × (Addr → Value → Option Addr → TS))}, ClsN X hs2 l2 → wNm X.K Wo De l2 clv dd sg' Hc →
        wpAny (model X.prog X.w) X.A (handleBy (.ref z) X.env hs2) (SP X pins De) X.xe { sB with heap := hA } := by
      intro hs2 l2 cs
      induction cs with
      | nil =>
        intro w2
        refine wpAny_handleBy_nil ?_
        obtain ⟨_, _, _, oq, vq, Tq, _, _, gq, _, dq, fq, _⟩ := id flA
        unfold PySem.passOn
        refine wpAny_bind (wpAny_field gq dq fq ?_)
        rw [if_neg (show ¬ ((Value.ref Tq == Value.none) = true) by simp)]
        have up2 : wpAny (model X.prog X.w) X.A (setFlight (.ref z) X.env.frame) (fun _ sD => wpAny (model X.prog X.w) X.A (throw (.ref z) : Sem Flow) (SP X pins De) X.xe sD) X.xe { sB with heap := hA } := by
          rw [fr]
          refine HandSPX.setFlight_upZ flA fun hB held upB => wpAny_throw (takes _ _ ?_)
          exact ⟨z, Bh, sC, pins, sg', Hc, clv, dd, rfl, Ic, kept, (grown.trans upA).trans upB, .inr (.inr (st ▸ held)), free, sameOs, bare, w2⟩
        first
          | exact wpAny_bind (wpAny_pure (wpAny_bind up2))
          | exact wpAny_bind up2
      | @cons x nn cv j tk first more p1 p2 hr' lr' named at_ loc does tail ih =>
        intro w2
        obtain ⟨y, ey, yes, no⟩ := w2
        refine wpAny_handleBy_cons (codeAny_handlers_test ?_) (by intro q; cases q)
        have lt : PySem.W.Looks (model X.prog X.w) hA (typeOf (.ref z)) clv := by
          intro A1 Q1 E1 s1 kk qq
          exact wpAny_typeOf_ref (kk _ _ getA) (by rw [zcA.1]; exact qq)
        have lm := PySem.W.exm_one (M := model X.prog X.w) IA.kIn lt ey
        have reads : ∀ {Q1 : Value → Shared → Prop} {E1 : Value → Shared → Prop}, Q1 cv { sB with heap := hA } → wpAny (model X.prog X.w) (X.A.mark (some (.ref z))) (eval (.Name x p1) X.env) Q1 E1 { sB with heap := hA } := by
          intro Q1 E1 qq
          obtain ⟨hgl, hdb, hm | ⟨hm, hv, hne⟩⟩ := named
          · exact ld_glob (X := X.suite z ((z, oA) :: (X.pn ++ pins))) SA hgl hm qq hdb
          · exact ld_blt (X := X.suite z ((z, oA) :: (X.pn ++ pins))) SA hgl hm hv qq hne hdb
        refine reads (lm.here ?_)
        cases y with
        | false => exact ih (no rfl)
        | true =>
          refine codeAny_handlers_suite_as (HandSPX.lands_againZ flA fun hB flB upB => ?_)
          have IB : Inv X pins sg' Hc { sB with heap := hB } := Ic.landed kept flB.1 ((grown.trans upA).trans upB) sameOs bare
          obtain ⟨oB, vB, getB, zcB, datB⟩ := flB.there
          have SB := IB.suite getB datB free nloc nfs
          refine store_ok (X := X.suite z ((z, oB) :: (X.pn ++ pins))) (v := .ref z) SB nd at_ (.inl loc) rfl (fun sE SE => ?_) (.inr loc)
          refine wpAny_mono ((does z oB clv dd (X.pn ++ pins) zcB ⟨_, datB⟩).run [] sE _ Hc _ SE (yes rfl z free)) (fun fl sF good => ?_) fun _ _ q => q.elim
          have leave : ∀ {s6 : L2.St} {H6 : Hp} {Q6 : Shared → Prop}, Inv (X.suite z ((z, oB) :: (X.pn ++ pins))) [] s6 H6 sF → (∀ s7, Inv X pins (s6.set j none) H6 s7 → Q6 s7) →
              wpAny (model X.prog X.w) X.A (do bindName X.env nn .none; unbindBehindTheSuite X.env nn p2) (fun _ s7 => Q6 s7) X.xe sF := by
            intro s6 H6 Q6 S6 hq
            exact gone_ok (S6.unsuite okX) nd at_ loc hq
          cases fl with
          | next => obtain ⟨s6, H6, S6, w6⟩ := good; exact leave S6 fun s7 J7 => ⟨_, _, J7, w6⟩
          | brk => obtain ⟨s6, H6, S6, w6⟩ := good; exact leave S6 fun s7 J7 => ⟨_, _, J7, w6⟩
          | cont => obtain ⟨s6, H6, S6, w6⟩ := good; exact leave S6 fun s7 J7 => ⟨_, _, J7, w6⟩
          | ret u => obtain ⟨v6, s6, H6, S6, r6, w6⟩ := good; exact leave S6 fun s7 J7 => ⟨_, _, _, J7, r6, w6⟩
    exact go cl wish'
end
/-! ### the same, pure -/
abbrev QH := (Addr → Option Bool) × Nat × (Addr → Value → Option Addr → QS)
def exN (D : QD) : List QH → PSt → PX → Prop
  | [] => D.ex
  | (r, i, qs) :: l => fun ρ' p => match r p.C with
    | some true => ∀ a d, qs a (.ref p.C) (some d) { nx := fun ρ2 => D.nx (ρ2.set i none), rt := D.rt, bk := fun ρ2 => D.bk (ρ2.set i none), ct := fun ρ2 => D.ct (ρ2.set i none), ex := fun _ _ => False } (ρ'.set i (some (.exc a d p.C p.fs)))
    | some false => exN D l ρ' p
    | none => False
def tryN (l : List QH) (D : QD) : QD := { D with ex := exN D l }
def qTryN (l : List QH) (qb : QS) : QS := fun D ρ => qb (tryN l D) ρ
inductive JHs (X : Cx) : List ExceptHandler → List QH → Prop
  | nil : JHs X [] []
  | cons {x n : Str} {c : Value} {i : Nat} {r : Addr → Option Bool} {qs : Addr → Value → Option Addr → QS} {b₀ : Stmt} {suite : List Stmt} {np pos' : Pos} {hs : List ExceptHandler} {l : List QH} (hc : Names X x c) (he : ∀ C b, r C = some b → PySem.W.exmOne X.K (.ref C) c = some b)
      (hi : X.N[i]? = some n) (hl : X.env.kindOf n = some .local)
      (hsu : ∀ (a : Addr) (oe : Obj) (cls : Value) (d : Option Addr) (pn : List (Addr × Obj)), Zc cls d oe → (∃ vs, oe.data = .fields vs) → JSs (X.suite a ((a, oe) :: pn)) (fun _ _ _ _ => False) (b₀ :: suite) (qs a cls d)) (t : JHs X hs l) :
      JHs X (.ExceptHandler (some (.Name x np)) (some n) (b₀ :: suite) pos' :: hs) ((r, i, qs) :: l)
section
variable {X : Cx} {W : WX}
theorem jhs_cls {hs : List ExceptHandler} {l : List QH} (h : JHs X hs l) : ∃ ll, ClsN X hs ll ∧ ∀ {Gb Hb : Hp} {D : QD} {Dh : Ends}, Mt X.K W Gb Hb D Dh → ∀ ρ2 σ2 G2 H2 p d, RelS X.K Gb Hb ρ2 σ2 G2 H2 → RepX X.K G2 H2 p d → exN D l ρ2 p → wNm X.K W Dh ll (.ref p.C) (some d) σ2 H2 := by
  induction h with
  | nil => exact ⟨[], .nil, fun M ρ2 σ2 G2 H2 p d R r q => M.ex ρ2 σ2 G2 H2 p d R r q⟩
  | @cons x n c i r qs b₀ suite np pos' hs l hc he hi hl hsu t ih =>
    obtain ⟨ll, h1, h2⟩ := ih
    refine ⟨(c, i, fun a cls d => tSJ X.K (fun _ _ _ _ => False) (qs a cls d)) :: ll, .cons hc hi hl hsu h1, fun {Gb Hb D Dh} M ρ2 σ2 G2 H2 p d R rx q => ?_⟩
    have q' : (match r p.C with
      | some true => ∀ a d, qs a (.ref p.C) (some d) { nx := fun ρ2 => D.nx (ρ2.set i none), rt := D.rt, bk := fun ρ2 => D.bk (ρ2.set i none), ct := fun ρ2 => D.ct (ρ2.set i none), ex := fun _ _ => False } (ρ2.set i (some (.exc a d p.C p.fs)))
      | some false => exN D l ρ2 p
      | none => False : Prop) := q
    split at q'
    · rename_i e
      refine ⟨true, he _ _ e, fun _ a ha => ?_, (fun z => nomatch z)⟩
      refine ⟨Gb, Hb, _, G2, _, R.setExc i rx, ?_, q' a d⟩
      exact ⟨fun ρ3 σ3 G3 H3 R3 q3 => M.nx _ _ G3 H3 (R3.drop i none) q3, M.rt, fun ρ3 σ3 G3 H3 R3 q3 => M.bk _ _ G3 H3 (R3.drop i none) q3, fun ρ3 σ3 G3 H3 R3 q3 => M.ct _ _ G3 H3 (R3.drop i none) q3, fun _ _ _ _ _ _ _ _ z => z.elim⟩
    · rename_i e
      exact ⟨false, he _ _ e, (fun z => nomatch z), fun _ => h2 M ρ2 σ2 G2 H2 p d R rx q'⟩
    · exact q'.elim
theorem js_tryN {body : List Stmt} {h₀ : ExceptHandler} {hs : List ExceptHandler} {l : List QH} {qb : QS} {pos : Pos} (hN : X.N.Nodup) (tk : Takes X W)
    (hb : ∀ (W' : WX) (pn : List (Addr × Obj)) (xe : Value → Shared → Prop), Takes (X.tr pn xe) W' → PassesOwn (model X.prog X.w) X.A X.env xe → JSs (X.tr pn xe) W' body qb) (hh : JHs X (h₀ :: hs) l)
    (hst : X.stack = X.env :: X.outer := by rfl) (hf : X.env.frame = some X.env.locals := by rfl) : JS X W (.Try body (h₀ :: hs) [] [] pos) (qTryN l qb) := by
  obtain ⟨ll, h1, h2⟩ := jhs_cls (W := W) hh
  refine PS.imp (ps_tryN (tb := fun W' => tSJ X.K W' qb) hst hf hN tk hb h1) fun Dh σ H ⟨Gb, Hb, ρ, G, D, R, M, q⟩ => ?_
  exact ⟨Gb, Hb, ρ, G, tryN l D, R, ⟨M.nx, M.rt, M.bk, M.ct, fun ρ2 σ2 G2 H2 p d R2 r2 q2 => h2 M ρ2 σ2 G2 H2 p d R2 r2 q2⟩, q⟩
end
/-! ### a list or a tuple -/
def qIA (q : QE) : QI := fun ρ y Q => qIL q ρ y Q ∨ qIT q ρ y Q
theorem ji_any {X : Cx} {W : WX} {tg e : Expr} {q : QE} (h : JE X W e q) : JI X W tg e (qIA q) := by
  refine ⟨fun pins s σ H R I ⟨Gb, Hb, ρ, G, y, Q, R', E, q', k⟩ => ?_⟩
  rcases q' with q' | q'
  · exact (ji_list h).run pins s σ H R I ⟨Gb, Hb, ρ, G, y, Q, R', E, q', k⟩
  · exact (ji_tup h).run pins s σ H R I ⟨Gb, Hb, ρ, G, y, Q, R', E, q', k⟩
end QL

namespace QL
open PySem PySem.Spec PyProof.Rows L2
/-! ### the later equations at full arity (printed by eqgen.py) -/
theorem qIL_eq (q : QE) (ρ : PSt) (y : Y) (Q : List PV → Prop) : qIL q ρ y Q = (q ρ y fun x => match x with
  | .lst xs => Q xs
  | _ => False) := rfl
theorem qIT_eq (q : QE) (ρ : PSt) (y : Y) (Q : List PV → Prop) : qIT q ρ y Q = (q ρ y fun x => match x with
  | .tup xs => Q xs
  | _ => False) := rfl
theorem qIR1_eq (q : QA) (ρ : PSt) (y : Y) (Q : List PV → Prop) : qIR1 q ρ y Q = (q ρ y fun xs => match xs with
  | [.int n] => -(2 ^ 62) ≤ n ∧ n < 2 ^ 62 ∧ Q (rangeP 0 n.toNat)
  | _ => False) := rfl
theorem qIR2_eq (q : QA) (ρ : PSt) (y : Y) (Q : List PV → Prop) : qIR2 q ρ y Q = (q ρ y fun xs => match xs with
  | [.int lo, .int hi] => (-(2 ^ 62) ≤ lo ∧ lo < 2 ^ 62 ∧ -(2 ^ 62) ≤ hi ∧ hi < 2 ^ 62) ∧ Q (rangeP lo (hi - lo).toNat)
  | _ => False) := rfl
theorem qIZ_eq (q : QA) (ρ : PSt) (y : Y) (Q : List PV → Prop) : qIZ q ρ y Q = (q ρ y fun xs => match xs with
  | [.lst us, .lst vs] => Q (zipP us vs)
  | [.tup us, .tup vs] => Q (zipP us vs)
  | _ => False) := rfl
theorem qIE_eq (q : QA) (ρ : PSt) (y : Y) (Q : List PV → Prop) : qIE q ρ y Q = (q ρ y fun xs => match xs with
  | [.lst us] => Q (enumP us)
  | _ => False) := rfl
theorem qIRev_eq (q : QA) (ρ : PSt) (y : Y) (Q : List PV → Prop) : qIRev q ρ y Q = (q ρ y fun xs => match xs with
  | [.lst us] => Q us.reverse
  | _ => False) := rfl
theorem qFor_eq (i : Nat) (qi : QI) (q : QS) (D : QD) (ρ : PSt) : qFor i qi q D ρ = (qi ρ (D.ex ρ) fun xs => qLoop i q D xs ρ) := rfl
theorem qForP_eq (is : List Nat) (qi : QI) (q : QS) (D : QD) (ρ : PSt) : qForP is qi q D ρ = (qi ρ (D.ex ρ) fun xs => qLoopT is q D xs ρ) := rfl
theorem qYes_eq  (u0 : PSt) (u1 : Y) (Q : Bool → Prop) : qYes  u0 u1 Q = (Q true) := rfl
theorem qLc_eq (t : PV → PSt → (PSt → Prop) → Prop) (vs : List Nat) (qi : QI) (qt : QT) (qe : QE) (ρ : PSt) (y : Y) (Q : PV → Prop) : qLc t vs qi qt qe ρ y Q = (qi ρ y fun xs => xs.length ≤ 10000 ∧ qColl t qt qe (wipeP ρ vs) (fun acc => Q (.lst acc)) xs []) := rfl
theorem qOwnLc_eq (i : Nat) (t : PV → PSt → (PSt → Prop) → Prop) (vs : List Nat) (qi : QI) (qt : QT) (qe : QE) (D : QD) (ρ : PSt) : qOwnLc i t vs qi qt qe D ρ = (qi ρ (D.ex ρ) fun xs => xs.length ≤ 10000 ∧ qColl t qt qe (wipeP ρ vs) (fun acc => D.nx (ρ.set i (some (.own acc)))) xs []) := rfl
theorem cSum_eq  (xs : List PV) (Q : PV → Prop) : cSum  xs Q = (match xs with
  | [.lst ys] => (match intsOf ys with
    | some ns => Q (.int ns.sum)
    | none => False)
  | _ => False) := rfl
theorem cAll_eq  (xs : List PV) (Q : PV → Prop) : cAll  xs Q = (match xs with
  | [.lst ys] => (match blsOf ys with
    | some ns => Q (.bl (ns.all id))
    | none => False)
  | _ => False) := rfl
theorem cAny_eq  (xs : List PV) (Q : PV → Prop) : cAny  xs Q = (match xs with
  | [.lst ys] => (match blsOf ys with
    | some ns => Q (.bl (ns.any id))
    | none => False)
  | _ => False) := rfl
theorem cMaxL_eq  (xs : List PV) (Q : PV → Prop) : cMaxL  xs Q = (match xs with
  | [.lst ys] => (match intsOf ys with
    | some ns => 0 < ns.length ∧ ∀ m, m ∈ ns → (∀ y, y ∈ ns → y ≤ m) → Q (.int m)
    | none => False)
  | _ => False) := rfl
theorem cMinL_eq  (xs : List PV) (Q : PV → Prop) : cMinL  xs Q = (match xs with
  | [.lst ys] => (match intsOf ys with
    | some ns => 0 < ns.length ∧ ∀ m, m ∈ ns → (∀ y, y ∈ ns → m ≤ y) → Q (.int m)
    | none => False)
  | _ => False) := rfl
theorem cMax_eq  (xs : List PV) (Q : PV → Prop) : cMax  xs Q = (match xs with
  | [.int i, .int j] => Q (.int (if j > i then j else i))
  | _ => False) := rfl
theorem cMin_eq  (xs : List PV) (Q : PV → Prop) : cMin  xs Q = (match xs with
  | [.int i, .int j] => Q (.int (if j < i then j else i))
  | _ => False) := rfl
theorem cList_eq  (xs : List PV) (Q : PV → Prop) : cList  xs Q = (match xs with
  | [.lst ys] => Q (.lst ys)
  | [.tup ys] => Q (.lst ys)
  | _ => False) := rfl
theorem cTuple_eq  (xs : List PV) (Q : PV → Prop) : cTuple  xs Q = (match xs with
  | [.lst ys] => Q (.tup ys)
  | [.tup ys] => Q (.tup ys)
  | _ => False) := rfl
theorem cLcm_eq  (xs : List PV) (Q : PV → Prop) : cLcm  xs Q = (match xs with
  | [.int i, .int j] => (i.natAbs < 2 ^ 13000 ∧ j.natAbs < 2 ^ 13000) ∧ Q (.int ((Nat.lcm i.natAbs j.natAbs : Nat) : Int))
  | _ => False) := rfl
theorem qBinI_eq (C : Addr) (P : PSpec) (qa qb : QE) (ρ : PSt) (y : Y) (Q : PV → Prop) : qBinI C P qa qb ρ y Q = (qa ρ y fun x => qb ρ y fun z => match x, z with
  | .obj C1 fs, .int i => C1 = C ∧ P [.obj C1 fs, .int i] y Q
  | _, _ => False) := rfl
theorem qBinC_eq (C D : Addr) (P : PSpec) (qa qb : QE) (ρ : PSt) (y : Y) (Q : PV → Prop) : qBinC C D P qa qb ρ y Q = (qa ρ y fun x => qb ρ y fun z => match x, z with
  | .obj C1 fs, .obj C2 gs => C1 = C ∧ C2 = D ∧ P [.obj C1 fs, .obj C2 gs] y Q
  | _, _ => False) := rfl
theorem qBin2_eq (C D : Addr) (P : PSpec) (qa qb : QE) (ρ : PSt) (y : Y) (Q : PV → Prop) : qBin2 C D P qa qb ρ y Q = (qa ρ y fun x => qb ρ y fun z => match x, z with
  | .obj C1 fs, .int i => C1 = C ∧ P [.obj C1 fs, .int i] y Q
  | .obj C1 fs, .obj C2 gs => C1 = C ∧ C2 = D ∧ P [.obj C1 fs, .obj C2 gs] y Q
  | _, _ => False) := rfl
theorem qRInt_eq (D : Addr) (P : PSpec) (qa qb : QE) (ρ : PSt) (y : Y) (Q : PV → Prop) : qRInt D P qa qb ρ y Q = (qa ρ y fun x => qb ρ y fun z => match x, z with
  | .int i, .obj C2 gs => C2 = D ∧ P [.obj C2 gs, .int i] y Q
  | _, _ => False) := rfl
theorem qRC_eq (C D : Addr) (P : PSpec) (qa qb : QE) (ρ : PSt) (y : Y) (Q : PV → Prop) : qRC C D P qa qb ρ y Q = (qa ρ y fun x => qb ρ y fun z => match x, z with
  | .obj C1 fs, .obj C2 gs => C1 = C ∧ C2 = D ∧ P [.obj C2 gs, .obj C1 fs] y Q
  | _, _ => False) := rfl
theorem cLenO_eq (C : Addr) (P : PSpec) (xs : List PV) (Q : PV → Prop) : cLenO C P xs Q = (match xs with
  | [.obj C1 fs] => C1 = C ∧ P [.obj C1 fs] (fun _ => False) fun r => match r with
    | .int i => 0 ≤ i ∧ i < 2 ^ 63 ∧ Q (.int i)
    | _ => False
  | _ => False) := rfl
theorem qIxOwn_eq (C : Addr) (P : PSpec) (qa qb : QE) (ρ : PSt) (y : Y) (Q : PV → Prop) : qIxOwn C P qa qb ρ y Q = (qa ρ y fun x => qb ρ y fun z => match x with
  | .obj C1 fs => C1 = C ∧ P [.obj C1 fs, z] (fun _ => False) Q
  | _ => False) := rfl
theorem qLend_eq (i : Nat) (q : QE) (ρ : PSt) (y : Y) (Q : PV → Prop) : qLend i q ρ y Q = (match ρ[i]? with
  | some (some (.own xs)) => q (ρ.set i (some (.pv (.lst xs)))) (fun p => noL.noLf p.fs = true ∧ y p) (fun x => noL x = true ∧ Q x)
  | _ => False) := rfl
theorem qLendT_eq (i : Nat) (q : QT) (ρ : PSt) (y : Y) (Q : Bool → Prop) : qLendT i q ρ y Q = (match ρ[i]? with
  | some (some (.own xs)) => q (ρ.set i (some (.pv (.lst xs)))) (fun p => noL.noLf p.fs = true ∧ y p) Q
  | _ => False) := rfl
theorem qOwnL_eq (i : Nat) (q : QA) (D : QD) (ρ : PSt) : qOwnL i q D ρ = (q ρ (D.ex ρ) fun xs => match xs with
  | [.lst ys] => D.nx (ρ.set i (some (.own ys)))
  | [.tup ys] => D.nx (ρ.set i (some (.own ys)))
  | _ => False) := rfl
theorem qTryN_eq (l : List QH) (qb : QS) (D : QD) (ρ : PSt) : qTryN l qb D ρ = (qb (tryN l D) ρ) := rfl
theorem tryN_nx (l : List QH) (D : QD) : (tryN l D).nx = D.nx := rfl
theorem tryN_rt (l : List QH) (D : QD) : (tryN l D).rt = D.rt := rfl
theorem tryN_bk (l : List QH) (D : QD) : (tryN l D).bk = D.bk := rfl
theorem tryN_ct (l : List QH) (D : QD) : (tryN l D).ct = D.ct := rfl
theorem tryN_ex (l : List QH) (D : QD) : (tryN l D).ex = exN D l := rfl
theorem exN_nil (D : QD) (ρ : PSt) (p : PX) : exN D [] ρ p = D.ex ρ p := rfl
theorem exN_cons (D : QD) (r : Addr → Option Bool) (i : Nat) (qs : Addr → Value → Option Addr → QS) (l : List QH) (ρ : PSt) (p : PX) : exN D ((r, i, qs) :: l) ρ p = (match r p.C with
    | some true => ∀ a d, qs a (.ref p.C) (some d) { nx := fun ρ2 => D.nx (ρ2.set i none), rt := D.rt, bk := fun ρ2 => D.bk (ρ2.set i none), ct := fun ρ2 => D.ct (ρ2.set i none), ex := fun _ _ => False } (ρ.set i (some (.exc a d p.C p.fs)))
    | some false => exN D l ρ p
    | none => False) := rfl
/-- a comprehension without a test whose element is a function of the item -/
theorem coll_map {t : PV → PSt → (PSt → Prop) → Prop} {qe : QE} {ρ : PSt} {Q : List PV → Prop} (f : PV → PV) : ∀ (xs acc : List PV), (∀ x ∈ xs, ∀ R : PV → Prop, R (f x) → t x ρ fun ρ1 => qe ρ1 (fun _ => False) R) → Q (acc ++ xs.map f) → qColl t qYes qe ρ Q xs acc
  | [], acc, _, q => by rw [List.map_nil, List.append_nil] at q; exact q
  | x :: xs, acc, h, q => by
    have h1 := h x List.mem_cons_self (fun v => qColl t qYes qe ρ Q xs (acc ++ [v])) (coll_map f xs (acc ++ [f x]) (fun y hy => h y (List.mem_cons_of_mem _ hy)) (by rw [List.append_assoc]; exact q))
    exact h1
theorem coll_nil {t : PV → PSt → (PSt → Prop) → Prop} {qt : QT} {qe : QE} {ρ : PSt} {Q : List PV → Prop} {acc : List PV} : qColl t qt qe ρ Q [] acc = Q acc := rfl
theorem coll_cons {t : PV → PSt → (PSt → Prop) → Prop} {qt : QT} {qe : QE} {ρ : PSt} {Q : List PV → Prop} {x : PV} {xs acc : List PV} : qColl t qt qe ρ Q (x :: xs) acc = t x ρ fun ρ1 => qt ρ1 (fun _ => False) fun b => if b = true then qe ρ1 (fun _ => False) fun v => qColl t qt qe ρ Q xs (acc ++ [v]) else qColl t qt qe ρ Q xs acc := rfl
theorem tName_eq (i : Nat) (x : PV) (ρ : PSt) (k : PSt → Prop) : tName i x ρ k = k (ρ.set i (some (.pv x))) := rfl
theorem tTup_eq (is : List Nat) (xs : List PV) (ρ : PSt) (k : PSt → Prop) : tTup is (.tup xs) ρ k = (xs.length = is.length ∧ k (setAll ρ is xs)) := rfl
/-- ints to ints -/
theorem coll_ints {t : PV → PSt → (PSt → Prop) → Prop} {qe : QE} {ρ : PSt} {Q : List PV → Prop} (f : Int → Int) (ns : List Int) (h : ∀ n ∈ ns, ∀ R : PV → Prop, R (.int (f n)) → t (.int n) ρ fun ρ1 => qe ρ1 (fun _ => False) R) (q : Q ((ns.map f).map PV.int)) : qColl t qYes qe ρ Q (ns.map PV.int) [] := by
  refine coll_map (fun x => match x with
    | .int n => .int (f n)
    | x => x) _ _ (fun x hx R r => ?_) ?_
  · obtain ⟨n, hn, rfl⟩ := List.mem_map.mp hx
    exact h n hn R r
  · rw [List.nil_append, List.map_map]
    rw [List.map_map] at q
    exact q
theorem wipe1 (ρ : PSt) (i : Nat) : wipeP ρ [i] = ρ.set i none := rfl
theorem wipe2 (ρ : PSt) (i j : Nat) : wipeP ρ [i, j] = (ρ.set j none).set i none := rfl
end QL

namespace QL
open PySem PySem.Spec PyProof.Rows L2
/-! ### integer lists over one bottom, lowest terms -/
def gcdNs : List Int → Nat → Nat
  | [], p => p
  | t :: ts, p => gcdNs ts (Nat.gcd p t.natAbs)
theorem gcdNs_one : ∀ ts : List Int, gcdNs ts 1 = 1
  | [] => rfl
  | t :: ts => by
    show gcdNs ts (Nat.gcd 1 t.natAbs) = 1
    rw [Nat.gcd_one_left]
    exact gcdNs_one ts
theorem sharedN_gcd : ∀ (ts : List Int) (p : Nat), sharedN ts (p : Int) = ((gcdNs ts p : Nat) : Int)
  | [], p => rfl
  | t :: ts, p => by
    show (if (p : Int) = 1 then (p : Int) else sharedN ts (gcdZ (p : Int) t)) = _
    split
    · rename_i h
      have h : p = 1 := by omega
      subst h
      show (1 : Int) = ((gcdNs ts (Nat.gcd 1 t.natAbs) : Nat) : Int)
      rw [Nat.gcd_one_left, gcdNs_one]
      rfl
    · show sharedN ts ((Nat.gcd (p : Int).natAbs t.natAbs : Nat) : Int) = _
      rw [Int.natAbs_natCast, sharedN_gcd]
      rfl
theorem abs_cast (b : Int) : (if b < 0 then -b else b) = ((b.natAbs : Nat) : Int) := by split <;> omega
/-- the shared part, with the bottom's sign -/
theorem shared_eq (ts : List Int) (b : Int) : shared ts b = if b > 0 then ((gcdNs ts b.natAbs : Nat) : Int) else -((gcdNs ts b.natAbs : Nat) : Int) := by
  unfold shared
  rw [abs_cast, sharedN_gcd]
theorem gcdNs_scale (d : Nat) : ∀ (ts : List Int) (p : Nat) (e : Int), e.natAbs = d → gcdNs (ts.map (· * e)) (p * d) = gcdNs ts p * d
  | [], p, e, _ => rfl
  | t :: ts, p, e, h => by
    show gcdNs (ts.map (· * e)) (Nat.gcd (p * d) (t * e).natAbs) = gcdNs ts (Nat.gcd p t.natAbs) * d
    rw [Int.natAbs_mul, h, Nat.gcd_mul_right]
    exact gcdNs_scale d ts _ e h
theorem gcdNs_pos : ∀ (ts : List Int) (p : Nat), 0 < p → 0 < gcdNs ts p
  | [], _, h => h
  | t :: ts, p, h => gcdNs_pos ts _ (Nat.gcd_pos_of_pos_left _ h)
theorem gcdNs_dvd : ∀ (ts : List Int) (p : Nat), gcdNs ts p ∣ p ∧ ∀ t ∈ ts, gcdNs ts p ∣ t.natAbs
  | [], p => ⟨Nat.dvd_refl _, fun _ h => nomatch h⟩
  | t :: ts, p => by
    obtain ⟨h1, h2⟩ := gcdNs_dvd ts (Nat.gcd p t.natAbs)
    refine ⟨Nat.dvd_trans h1 (Nat.gcd_dvd_left _ _), fun x hx => ?_⟩
    rcases List.mem_cons.mp hx with rfl | hx
    · exact Nat.dvd_trans h1 (Nat.gcd_dvd_right _ _)
    · exact h2 x hx
theorem sharedV_ne {ts : List Int} {b : Int} (hb : b ≠ 0) : shared ts b ≠ 0 := by
  have := gcdNs_pos ts b.natAbs (by omega)
  rw [shared_eq]
  split <;> omega
theorem sharedV_abs (ts : List Int) (b : Int) : (shared ts b).natAbs = gcdNs ts b.natAbs := by
  rw [shared_eq]
  split <;> omega
theorem sharedV_sz {n : Nat} {ts : List Int} {b : Int} (h : Sz n b) (hb : b ≠ 0) : Sz n (shared ts b) := by
  refine h.le ?_
  rw [sharedV_abs]
  exact Nat.le_of_dvd (by omega) (gcdNs_dvd ts _).1
theorem sharedV_dvd_b (ts : List Int) (b : Int) : shared ts b ∣ b := by
  rw [← Int.natAbs_dvd_natAbs, sharedV_abs]
  exact (gcdNs_dvd ts _).1
theorem sharedV_dvd_t (ts : List Int) (b : Int) {t : Int} (h : t ∈ ts) : shared ts b ∣ t := by
  rw [← Int.natAbs_dvd_natAbs, sharedV_abs]
  exact (gcdNs_dvd ts _).2 t h
theorem shared_scale (ts : List Int) {b d : Int} (hb : b ≠ 0) (hd : d ≠ 0) : shared (ts.map (· * d)) (b * d) = shared ts b * d := by
  rw [shared_eq, shared_eq, Int.natAbs_mul, gcdNs_scale d.natAbs ts _ d rfl]
  rcases Int.lt_or_gt_of_ne hb with h1 | h1 <;> rcases Int.lt_or_gt_of_ne hd with h2 | h2
  · rw [if_pos (Int.mul_pos_of_neg_of_neg h1 h2), if_neg (by omega), Int.natCast_mul, Int.neg_mul, ← Int.mul_neg]
    congr 1
    omega
  · rw [if_neg (by have := Int.mul_neg_of_neg_of_pos h1 h2; omega), if_neg (by omega), Int.natCast_mul, Int.neg_mul]
    congr 2
    omega
  · rw [if_neg (by have := Int.mul_neg_of_pos_of_neg h1 h2; omega), if_pos h1, Int.natCast_mul, ← Int.mul_neg]
    congr 1
    omega
  · rw [if_pos (Int.mul_pos h1 h2), if_pos h1, Int.natCast_mul]
    congr 1
    omega
theorem fdiv_scale {x s d : Int} (hs : s ≠ 0) (hd : d ≠ 0) (h : s ∣ x) : (x * d).fdiv (s * d) = x.fdiv s := by
  obtain ⟨k, rfl⟩ := h
  rw [show s * k * d = s * d * k by rw [Int.mul_assoc, Int.mul_comm k d, ← Int.mul_assoc], Int.mul_fdiv_cancel_left k (Int.mul_ne_zero hs hd), Int.mul_fdiv_cancel_left k hs]
def normT (ts : List Int) (b : Int) : List Int := ts.map fun t => t.fdiv (shared ts b)
def normB (ts : List Int) (b : Int) : Int := b.fdiv (shared ts b)
theorem normT_len (ts : List Int) (b : Int) : (normT ts b).length = ts.length := List.length_map _
theorem map_mem {ts : List Int} {f g : Int → Int} (h : ∀ t ∈ ts, f t = g t) : ts.map f = ts.map g := List.map_congr_left h
theorem norm_scale (ts : List Int) {b d : Int} (hb : b ≠ 0) (hd : d ≠ 0) : normT (ts.map (· * d)) (b * d) = normT ts b ∧ normB (ts.map (· * d)) (b * d) = normB ts b := by
  unfold normT normB
  rw [shared_scale ts hb hd, List.map_map]
  exact ⟨map_mem fun t ht => fdiv_scale (sharedV_ne hb) hd (sharedV_dvd_t ts b ht), fdiv_scale (sharedV_ne hb) hd (sharedV_dvd_b ts b)⟩
theorem normT_mul (ts : List Int) (b : Int) : (normT ts b).map (· * shared ts b) = ts := by
  unfold normT
  rw [List.map_map]
  have : ∀ t ∈ ts, ((fun x => x * shared ts b) ∘ fun t => t.fdiv (shared ts b)) t = id t := fun t ht => fdiv_mul (sharedV_dvd_t ts b ht)
  rw [List.map_congr_left this, List.map_id]
theorem normB_mul (ts : List Int) (b : Int) : normB ts b * shared ts b = b := fdiv_mul (sharedV_dvd_b ts b)
theorem normB_pos {ts : List Int} {b : Int} (hb : b ≠ 0) : 0 < normB ts b := by
  have h := normB_mul ts b
  have h1 := shared_eq ts b
  have g := gcdNs_pos ts b.natAbs (by omega)
  by_cases hp : b > 0
  · rw [if_pos hp] at h1
    rw [h1] at h
    exact pos_fac (g := ((gcdNs ts b.natAbs : Nat) : Int)) (by rw [h]; exact hp) (by omega)
  · rw [if_neg hp] at h1
    rw [h1, Int.mul_neg] at h
    exact pos_fac (g := ((gcdNs ts b.natAbs : Nat) : Int)) (by omega) (by omega)
theorem norm_norm {ts : List Int} {b : Int} (hb : b ≠ 0) : normT (normT ts b) (normB ts b) = normT ts b ∧ normB (normT ts b) (normB ts b) = normB ts b := by
  have h := norm_scale (normT ts b) (Int.ne_of_gt (normB_pos (ts := ts) hb)) (sharedV_ne (ts := ts) hb)
  rw [normT_mul, normB_mul] at h
  exact ⟨h.1.symm, h.2.symm⟩
/-- lowest terms -/
def LowV (ts : List Int) (b : Int) : Prop := 0 < b ∧ normT ts b = ts ∧ normB ts b = b
theorem low_norm {ts : List Int} {b : Int} (hb : b ≠ 0) : LowV (normT ts b) (normB ts b) := ⟨normB_pos hb, (norm_norm hb).1, (norm_norm hb).2⟩
theorem LowV.one {ts : List Int} {b : Int} (h : LowV ts b) : shared ts b = 1 := by
  have h1 := normB_mul ts b
  rw [h.2.2] at h1
  have : b * shared ts b = b * 1 := by rw [h1, Int.mul_one]
  exact Int.eq_of_mul_eq_mul_left (Int.ne_of_gt h.1) this
theorem lowV_of {ts : List Int} {b : Int} (hb : 0 < b) (h : shared ts b = 1) : LowV ts b := by
  refine ⟨hb, ?_, ?_⟩
  · unfold normT
    rw [h]
    have : ∀ t ∈ ts, (fun t : Int => t.fdiv 1) t = id t := fun t _ => Int.fdiv_one t
    rw [List.map_congr_left this, List.map_id]
  · unfold normB
    rw [h, Int.fdiv_one]
theorem gcdNs_neg : ∀ (ts : List Int) (p : Nat), gcdNs (ts.map fun t => -t) p = gcdNs ts p
  | [], _ => rfl
  | t :: ts, p => by
    show gcdNs (ts.map fun t => -t) (Nat.gcd p (-t).natAbs) = _
    rw [Int.natAbs_neg, gcdNs_neg ts]
    rfl
theorem LowV.neg {ts : List Int} {b : Int} (h : LowV ts b) : LowV (ts.map fun t => -t) b := by
  refine lowV_of h.1 ?_
  have := h.one
  rw [shared_eq] at this ⊢
  rw [gcdNs_neg]
  exact this
theorem low_one (ts : List Int) : LowV ts 1 := lowV_of (by decide) (by rw [shared_eq, if_pos (by decide)]; show ((gcdNs ts 1 : Nat) : Int) = 1; rw [gcdNs_one]; rfl)
theorem norm_cross {xs ys : List Int} {b c : Int} (hb : b ≠ 0) (hc : c ≠ 0) (h : xs.map (· * c) = ys.map (· * b)) : normT xs b = normT ys c ∧ normB xs b = normB ys c := by
  have h1 := norm_scale xs hb hc
  have h2 := norm_scale ys hc hb
  rw [h, Int.mul_comm b c] at h1
  exact ⟨h1.1.symm.trans h2.1, h1.2.symm.trans h2.2⟩
theorem normT_sz {n : Nat} {ts : List Int} {b : Int} (h : ∀ t ∈ ts, Sz n t) (hb : b ≠ 0) : ∀ t ∈ normT ts b, Sz n t := by
  intro t ht
  obtain ⟨u, hu, rfl⟩ := List.mem_map.mp ht
  exact (h u hu).le (le_of_mul (fdiv_mul (sharedV_dvd_t ts b hu)) (sharedV_ne hb))
theorem normB_sz {n : Nat} {ts : List Int} {b : Int} (h : Sz n b) (hb : b ≠ 0) : Sz n (normB ts b) := h.le (le_of_mul (normB_mul ts b) (sharedV_ne hb))
theorem nT_one (t b : Int) : normT [t] b = [nT t b] := rfl
theorem nB_one (t b : Int) : normB [t] b = nB t b := rfl
end QL

namespace QL
open PySem PySem.Spec PyProof.Rows L2
/-! ### comprehensions over zipped ints -/
theorem coll_zip {t : PV → PSt → (PSt → Prop) → Prop} {qe : QE} {ρ : PSt} {Q : List PV → Prop} (f : Int → Int → Int) : ∀ (ls rs : List Int) (acc : List PV), (∀ x ∈ ls, ∀ z ∈ rs, ∀ R : PV → Prop, R (.int (f x z)) → t (.tup [.int x, .int z]) ρ fun ρ1 => qe ρ1 (fun _ => False) R) →
    Q (acc ++ (List.zipWith f ls rs).map PV.int) → qColl t qYes qe ρ Q (zipP (ls.map PV.int) (rs.map PV.int)) acc
  | [], rs, acc, _, q => by
    have : Q acc := by simpa using q
    exact this
  | x :: ls, [], acc, _, q => by
    have : Q acc := by simpa using q
    exact this
  | x :: ls, z :: rs, acc, h, q => by
    have h1 := h x List.mem_cons_self z List.mem_cons_self (fun v => qColl t qYes qe ρ Q (zipP (ls.map PV.int) (rs.map PV.int)) (acc ++ [v]))
      (coll_zip f ls rs (acc ++ [.int (f x z)]) (fun u hu w hw => h u (List.mem_cons_of_mem _ hu) w (List.mem_cons_of_mem _ hw)) (by rw [List.append_assoc]; exact q))
    exact h1
theorem zip_len (ls rs : List Int) (h : ls.length ≤ 1000) : (zipP (ls.map PV.int) (rs.map PV.int)).length ≤ 10000 := by
  rw [zipP_len, List.length_map, List.length_map]
  omega
/-- ints to truth values -/
theorem coll_bls {t : PV → PSt → (PSt → Prop) → Prop} {qe : QE} {ρ : PSt} {Q : List PV → Prop} (f : Int → Bool) (ns : List Int) (h : ∀ n ∈ ns, ∀ R : PV → Prop, R (.bl (f n)) → t (.int n) ρ fun ρ1 => qe ρ1 (fun _ => False) R) (q : Q ((ns.map f).map PV.bl)) : qColl t qYes qe ρ Q (ns.map PV.int) [] := by
  refine coll_map (fun x => match x with
    | .int n => .bl (f n)
    | x => x) _ _ (fun x hx R r => ?_) ?_
  · obtain ⟨n, hn, rfl⟩ := List.mem_map.mp hx
    exact h n hn R r
  · rw [List.nil_append, List.map_map]
    rw [List.map_map] at q
    exact q
/-- a range's places to ints -/
theorem coll_range {t : PV → PSt → (PSt → Prop) → Prop} {qe : QE} {ρ : PSt} {Q : List PV → Prop} (f : Nat → PV) (n : Nat) (h : ∀ i < n, ∀ R : PV → Prop, R (f i) → t (.int (0 + (i : Int))) ρ fun ρ1 => qe ρ1 (fun _ => False) R) (q : Q ((List.range n).map f)) : qColl t qYes qe ρ Q (rangeP 0 n) [] := by
  have key : ∀ (m : Nat) (acc : List PV) (is : List Nat), (∀ i ∈ is, i < n) → Q (acc ++ is.map f) → qColl t qYes qe ρ Q (is.map fun (k : Nat) => PV.int (0 + (k : Int))) acc := by
    intro m acc is
    induction is generalizing acc with
    | nil =>
      intro _ hq
      have : Q acc := by simpa using hq
      exact this
    | cons i is ih =>
      intro hi hq
      exact h i (hi i List.mem_cons_self) (fun v => qColl t qYes qe ρ Q (is.map fun (k : Nat) => PV.int (0 + (k : Int))) (acc ++ [v])) (ih (acc ++ [f i]) (fun j hj => hi j (List.mem_cons_of_mem _ hj)) (by rw [List.append_assoc]; exact hq))
  exact key n [] (List.range n) (fun i hi => List.mem_range.mp hi) (by simpa using q)
theorem len0 {ts : List Int} : ((ts.map PV.int).length : Int) = 0 ↔ ts = [] := by
  rw [List.length_map]
  constructor
  · intro h
    exact List.length_eq_zero_iff.mp (by omega)
  · rintro rfl
    rfl
/-! ### ints as data -/
theorem toDs_ints : ∀ ns : List Int, toDs (ns.map PV.int) = some (ns.map PyData.int)
  | [] => rfl
  | n :: ns => by
    show (match toD (.int n), toDs (ns.map PV.int) with
      | some d, some ds => some (d :: ds)
      | _, _ => none) = _
    rw [toDs_ints ns]
    rfl
theorem toD_lst (ns : List Int) : toD (.lst (ns.map PV.int)) = some (.list (ns.map PyData.int)) := by
  show (toDs (ns.map PV.int)).map PyData.list = _
  rw [toDs_ints]
  rfl
theorem toD_tup (ns : List Int) : toD (.tup (ns.map PV.int)) = some (.tuple (ns.map PyData.int)) := by
  show (toDs (ns.map PV.int)).map PyData.tuple = _
  rw [toDs_ints]
  rfl
theorem can_ints : ∀ ns : List Int, PyData.canLayAll0 (ns.map PyData.int) = true
  | [] => rfl
  | n :: ns => by
    show (PyData.canLay0 (.int n) && PyData.canLayAll0 (ns.map PyData.int)) = true
    rw [can_ints ns]
    rfl
theorem depth_ints : ∀ ns : List Int, PyData.depthAll (ns.map PyData.int) = 0
  | [] => rfl
  | n :: ns => by
    show max (PyData.depth (.int n)) (PyData.depthAll (ns.map PyData.int)) = 0
    rw [depth_ints ns]
    rfl
theorem shaped_lst (ns : List Int) : SeqAt.shaped (.list (ns.map PyData.int)) = true := by
  show (PyData.canLayAll0 (ns.map PyData.int) && decide (PyData.depthAll (ns.map PyData.int) + 1 ≤ 64)) = true
  rw [can_ints, depth_ints]
  rfl
theorem shaped_tup (ns : List Int) : SeqAt.shaped (.tuple (ns.map PyData.int)) = true := by
  show (PyData.canLayAll0 (ns.map PyData.int) && decide (PyData.depthAll (ns.map PyData.int) + 1 ≤ 64)) = true
  rw [can_ints, depth_ints]
  rfl
theorem eqvAll_ints : ∀ ns ms : List Int, PyData.eqvAll (ns.map PyData.int) (ms.map PyData.int) = (ns == ms)
  | [], [] => rfl
  | [], _ :: _ => rfl
  | _ :: _, [] => rfl
  | n :: ns, m :: ms => by
    show ((n == m) && PyData.eqvAll (ns.map PyData.int) (ms.map PyData.int)) = _
    rw [eqvAll_ints ns ms]
    rfl
theorem eqv_lst (ns ms : List Int) : PyData.eqv (.list (ns.map PyData.int)) (.list (ms.map PyData.int)) = (ns == ms) := by
  show PyData.eqvAll _ _ = _
  exact eqvAll_ints ns ms
theorem eqv_tup (ns ms : List Int) : PyData.eqv (.tuple (ns.map PyData.int)) (.tuple (ms.map PyData.int)) = (ns == ms) := by
  show PyData.eqvAll _ _ = _
  exact eqvAll_ints ns ms
end QL

namespace QL
open PySem PySem.Spec PyProof.Rows L2
theorem map_int_inj {ts us : List Int} (h : ts.map PV.int = us.map PV.int) : ts = us := by
  induction ts generalizing us with
  | nil => cases us with
    | nil => rfl
    | cons _ _ => exact absurd h (by simp)
  | cons t ts ih => cases us with
    | nil => exact absurd h (by simp)
    | cons u us =>
      rw [List.map_cons, List.map_cons] at h
      injection h with h1 h2
      injection h1 with h1
      rw [h1, ih h2]
def lcmZ (f g : Int) : Int := ((Nat.lcm f.natAbs g.natAbs : Nat) : Int)
theorem lcmZ_ne {f g : Int} (hf : f ≠ 0) (hg : g ≠ 0) : lcmZ f g ≠ 0 := by
  unfold lcmZ
  have := Nat.lcm_pos (Int.natAbs_pos.mpr hf) (Int.natAbs_pos.mpr hg)
  omega
theorem lcmZ_pos {f g : Int} (hf : f ≠ 0) (hg : g ≠ 0) : 0 < lcmZ f g := by
  unfold lcmZ
  have := Nat.lcm_pos (Int.natAbs_pos.mpr hf) (Int.natAbs_pos.mpr hg)
  omega
theorem lcmZ_dl (f g : Int) : f ∣ lcmZ f g := Int.natAbs_dvd.mp (Int.natCast_dvd_natCast.mpr (Nat.dvd_lcm_left _ _))
theorem lcmZ_dr (f g : Int) : g ∣ lcmZ f g := Int.natAbs_dvd.mp (Int.natCast_dvd_natCast.mpr (Nat.dvd_lcm_right _ _))
theorem lcmZ_sz {n m : Nat} {f g : Int} (hf : Sz n f) (hg : Sz m g) : Sz (n + m) (lcmZ f g) := by
  unfold Sz lcmZ at *
  rw [Int.natAbs_natCast, Nat.pow_add]
  have h : Nat.lcm f.natAbs g.natAbs ≤ f.natAbs * g.natAbs := Nat.div_le_self _ _
  exact Nat.lt_of_le_of_lt h (Nat.mul_lt_mul'' hf hg)
theorem fdiv_dvd {f l : Int} (h : f ∣ l) : f * l.fdiv f = l := by
  obtain ⟨k, rfl⟩ := h
  by_cases e : f = 0
  · subst e; simp
  · rw [Int.mul_fdiv_cancel_left _ e]
theorem fdiv_dvd_ne {f l : Int} (h : f ∣ l) (hl : l ≠ 0) : l.fdiv f ≠ 0 := by
  intro z
  have := fdiv_dvd h
  rw [z, Int.mul_zero] at this
  exact hl this.symm
theorem fdiv_dvd_sz {n : Nat} {f l : Int} (h : f ∣ l) (hf : f ≠ 0) (s : Sz n l) : Sz n (l.fdiv f) := by
  refine s.le ?_
  have e := congrArg Int.natAbs (fdiv_dvd h)
  rw [Int.natAbs_mul] at e
  have := Int.natAbs_pos.mpr hf
  rw [← e]
  exact Nat.le_mul_of_pos_left _ this
def lcmL : List (Int × Int) → Int → Int
  | [], l => l
  | r :: rs, l => lcmL rs (lcmZ l r.2)
theorem lcmL_pos {rs : List (Int × Int)} : ∀ {l : Int}, (∀ r ∈ rs, 0 < r.2) → 0 < l → 0 < lcmL rs l := by
  induction rs with
  | nil => intro l _ h; exact h
  | cons r rs ih =>
    intro l h hl
    refine ih (fun x hx => h x (.tail _ hx)) (lcmZ_pos (by omega) ?_)
    have := h r (.head _)
    omega
theorem lcmL_dl {rs : List (Int × Int)} : ∀ {l : Int}, l ∣ lcmL rs l := by
  induction rs with
  | nil => intro l; exact Int.dvd_refl l
  | cons r rs ih => intro l; exact Int.dvd_trans (lcmZ_dl l r.2) ih
theorem lcmL_dr {rs : List (Int × Int)} : ∀ {l : Int}, ∀ r ∈ rs, r.2 ∣ lcmL rs l := by
  induction rs with
  | nil => intro l r h; cases h
  | cons r rs ih =>
    intro l x hx
    rcases List.mem_cons.mp hx with rfl | hx
    · exact Int.dvd_trans (lcmZ_dr l x.2) lcmL_dl
    · exact ih x hx
theorem lcmL_sz {rs : List (Int × Int)} {k : Nat} : ∀ {l : Int} {n : Nat}, (∀ r ∈ rs, Sz k r.2) → Sz n l → Sz (n + k * rs.length) (lcmL rs l) := by
  induction rs with
  | nil => intro l n _ h; exact h
  | cons r rs ih =>
    intro l n h hl
    have := ih (l := lcmZ l r.2) (n := n + k) (fun x hx => h x (.tail _ hx)) (lcmZ_sz hl (h r (.head _)))
    rw [List.length_cons, Nat.mul_add, Nat.mul_one]
    exact this.mono (by omega)
def wsum (u v : Int) (ls rs : List Int) : List Int := List.zipWith (fun x z => u * x + v * z) ls rs
theorem wsum_len {u v : Int} {ls rs : List Int} (h : ls.length = rs.length) : (wsum u v ls rs).length = ls.length := by
  unfold wsum
  rw [List.length_zipWith, h, Nat.min_self]
theorem wsum_ne {u v : Int} {ls rs : List Int} (h : ls.length = rs.length) (h0 : ls ≠ []) : wsum u v ls rs ≠ [] := by
  intro z
  have := wsum_len (u := u) (v := v) h
  rw [z] at this
  exact h0 (List.length_eq_zero_iff.mp this.symm)
theorem zip_mem {α β γ : Type} {f : α → β → γ} {ls : List α} : ∀ {rs : List β} {t : γ}, t ∈ List.zipWith f ls rs → ∃ x ∈ ls, ∃ z ∈ rs, t = f x z := by
  induction ls with
  | nil => intro rs t h; simp at h
  | cons l ls ih =>
    intro rs t h
    cases rs with
    | nil => simp at h
    | cons r rs =>
      rw [List.zipWith_cons_cons] at h
      rcases List.mem_cons.mp h with rfl | h
      · exact ⟨_, .head _, _, .head _, rfl⟩
      · obtain ⟨x, hx, z, hz, e⟩ := ih h
        exact ⟨x, .tail _ hx, z, .tail _ hz, e⟩
theorem wsum_sz {n m : Nat} {u v : Int} {ls rs : List Int} (hu : Sz m u) (hv : Sz m v) (hl : ∀ t ∈ ls, Sz n t) (hr : ∀ t ∈ rs, Sz n t) : ∀ t ∈ wsum u v ls rs, Sz (m + n + 1) t := by
  intro t ht
  obtain ⟨x, hx, z, hz, rfl⟩ := zip_mem ht
  exact (hu.mul (hl x hx)).add (hv.mul (hr z hz))
end QL

namespace QL
open PySem PySem.Spec PyProof.Rows L2
/-! ### invariants that name the changed slots alone -/
def sets : PSt → List Nat → List (Option Sl) → PSt
  | ρ, [] => fun _ => ρ
  | ρ, i :: is => fun vs => match vs with
    | [] => ρ
    | v :: vs => sets (ρ.set i v) is vs
theorem sets_nil (ρ : PSt) (vs : List (Option Sl)) : sets ρ [] vs = ρ := rfl
theorem sets_cons (ρ : PSt) (i : Nat) (is : List Nat) (v : Option Sl) (vs : List (Option Sl)) : sets ρ (i :: is) (v :: vs) = sets (ρ.set i v) is vs := rfl
/-- the changed slots hold such values -/
inductive SetsAs (ρ : PSt) (is : List Nat) (I : List (Option Sl) → Prop) (ρ' : PSt) : Prop
  | intro (vs : List (Option Sl)) (h : I vs) (e : ρ' = sets ρ is vs) : SetsAs ρ is I ρ'
theorem cutS {q r : QS} {D : QD} {ρ : PSt} (is : List Nat) (I : List (Option Sl) → Prop)
    (h1 : q { D with nx := SetsAs ρ is I } ρ) (h2 : ∀ vs, I vs → r D (sets ρ is vs)) : qCut q r D ρ :=
  ⟨_, h1, by rintro ρ' ⟨vs, h, rfl⟩; exact h2 vs h⟩
theorem loopS {i : Nat} {q : QS} {D : QD} {xs : List PV} {ρ : PSt} (is : List Nat) (I : Nat → List (Option Sl) → Prop) (v0 : List (Option Sl)) (e0 : ρ = sets ρ is v0) (h0 : I 0 v0)
    (hs : ∀ (k : Nat) (x : PV) (vs : List (Option Sl)) (N : PSt → Prop), xs[k]? = some x → (∀ vs', I (k + 1) vs' → N (sets ρ is vs')) → I k vs → q { D with nx := N, ct := N, bk := D.nx } ((sets ρ is vs).set i (some (.pv x))))
    (he : ∀ vs, I xs.length vs → D.nx (sets ρ is vs)) : qLoop i q D xs ρ :=
  loop_at (fun k ρ' => ∃ vs, I k vs ∧ ρ' = sets ρ is vs) ⟨v0, h0, e0⟩ (by rintro k x ρ' N hx hN ⟨vs, h, rfl⟩; exact hs k x vs N hx (fun vs' h' => hN _ ⟨vs', h', rfl⟩) h) (by rintro ρ' ⟨vs, h, rfl⟩; exact he vs h)
/-- a loop that has its own cut behind it -/
theorem cutL {q r : QS} {D : QD} {ρ : PSt} (is : List Nat) (I : List (Option Sl) → Prop) (h2 : ∀ vs, I vs → r D (sets ρ is vs))
    (h1 : q { D with nx := SetsAs ρ is I } ρ) : qCut q r D ρ := cutS is I h1 h2
/-! ### comprehensions whose elements are left open -/
theorem coll_sat {t : PV → PSt → (PSt → Prop) → Prop} {qe : QE} {ρ : PSt} {Q : List PV → Prop} {P : Int → Prop} : ∀ (xs : List PV) (acc : List PV), (∀ x ∈ xs, ∀ R : PV → Prop, (∀ n : Int, P n → R (.int n)) → t x ρ fun ρ1 => qe ρ1 (fun _ => False) R) →
    (∀ ns : List Int, ns.length = xs.length → (∀ n ∈ ns, P n) → Q (acc ++ ns.map PV.int)) → qColl t qYes qe ρ Q xs acc
  | [], acc, _, q => by
    have := q [] rfl (fun _ z => nomatch z)
    rw [List.map_nil, List.append_nil] at this
    exact this
  | x :: xs, acc, h, q => by
    refine h x List.mem_cons_self (fun v => qColl t qYes qe ρ Q xs (acc ++ [v])) (fun n hn => ?_)
    refine coll_sat xs _ (fun y hy => h y (List.mem_cons_of_mem _ hy)) (fun ns h1 h2 => ?_)
    have := q (n :: ns) (by rw [List.length_cons, List.length_cons, h1]) (fun m hm => by
      rcases List.mem_cons.mp hm with rfl | hm
      · exact hn
      · exact h2 m hm)
    rw [List.map_cons] at this
    rw [List.append_assoc]
    exact this
theorem coll_sats {t : PV → PSt → (PSt → Prop) → Prop} {qe : QE} {ρ : PSt} {Q : List PV → Prop} (P : Int → Prop) (xs : List PV) (h : ∀ x ∈ xs, ∀ R : PV → Prop, (∀ n : Int, P n → R (.int n)) → t x ρ fun ρ1 => qe ρ1 (fun _ => False) R)
    (q : ∀ ns : List Int, ns.length = xs.length → (∀ n ∈ ns, P n) → Q (ns.map PV.int)) : qColl t qYes qe ρ Q xs [] := coll_sat xs [] h fun ns h1 h2 => by rw [List.nil_append]; exact q ns h1 h2
/-- ints with a test -/
theorem coll_filt {t : PV → PSt → (PSt → Prop) → Prop} {qt : QT} {qe : QE} {ρ : PSt} {Q : List PV → Prop} (f : Int → Bool) (g : Int → Int) : ∀ (ns : List Int) (acc : List PV), (∀ n ∈ ns, ∀ (R : PV → Prop) (S : Prop), (f n = true → R (.int (g n))) → (f n = false → S) → t (.int n) ρ fun ρ1 => qt ρ1 (fun _ => False) fun b => if b = true then qe ρ1 (fun _ => False) R else S) →
    Q (acc ++ ((ns.filter f).map g).map PV.int) → qColl t qt qe ρ Q (ns.map PV.int) acc
  | [], acc, _, q => by simpa [qColl] using q
  | n :: ns, acc, h, q => by
    refine h n List.mem_cons_self (fun v => qColl t qt qe ρ Q (ns.map PV.int) (acc ++ [v])) (qColl t qt qe ρ Q (ns.map PV.int) acc) (fun e => ?_) (fun e => ?_)
    · refine coll_filt f g ns _ (fun y hy => h y (List.mem_cons_of_mem _ hy)) ?_
      rw [List.filter_cons_of_pos e] at q
      rw [List.append_assoc]
      exact q
    · refine coll_filt f g ns _ (fun y hy => h y (List.mem_cons_of_mem _ hy)) ?_
      rw [List.filter_cons_of_neg (by rw [e]; decide)] at q
      exact q
/-- slices of ints -/
theorem cut_ints (ns : List Int) (lo hi : Option Int) : ∃ ms : List Int, cutP (ns.map PV.int) lo hi = ms.map PV.int ∧ ms = (ns.drop (HT.sIx ns.length 0 lo)).take (HT.sIx ns.length ns.length hi - HT.sIx ns.length 0 lo) := by
  refine ⟨_, ?_, rfl⟩
  unfold cutP
  rw [List.length_map, ← List.map_drop, ← List.map_take]
theorem cut_nn (ns : List Int) (lo hi : Nat) (h1 : lo ≤ hi) (h2 : hi ≤ ns.length) : cutP (ns.map PV.int) (some (lo : Int)) (some (hi : Int)) = ((ns.drop lo).take (hi - lo)).map PV.int ∧ ((ns.drop lo).take (hi - lo)).length = hi - lo := by
  refine ⟨?_, by rw [List.length_take, List.length_drop]; omega⟩
  unfold cutP
  rw [List.length_map, HT.sIx_nat, HT.sIx_nat, Nat.min_eq_left h2, Nat.min_eq_left (Nat.le_trans h1 h2), ← List.map_drop, ← List.map_take]
end QL

namespace QL
open PySem PySem.Spec PyProof.Rows L2
theorem map_int_inj_iff {ts us : List Int} : (ts.map PV.int = us.map PV.int) = (ts = us) := propext ⟨map_int_inj, fun h => by rw [h]⟩
/-! ### the program's values -/
abbrev lstI (ns : List Int) : PV := .lst (ns.map PV.int)
abbrev tupI (ns : List Int) : PV := .tup (ns.map PV.int)
/-- a list or a tuple of ints -/
def SeqI (s : PV) (ts : List Int) : Prop := s = lstI ts ∨ s = tupI ts
abbrev vec (C : Addr) (ts : List Int) (b : Int) : PV := .obj C [("tops", tupI ts), ("bottom", .int b)]
abbrev vecN (C : Addr) (ts : List Int) (b : Int) : PV := vec C (normT ts b) (normB ts b)
def SzL (n : Nat) (ts : List Int) : Prop := ∀ t ∈ ts, Sz n t
theorem SzL.mono {n m : Nat} {ts : List Int} (h : SzL n ts) (hm : n ≤ m) : SzL m ts := fun t ht => (h t ht).mono hm
def dotI (ls rs : List Int) : Int := (List.zipWith (fun x z => x * z) ls rs).sum
/-- a vector's sizes -/
def GV (n : Nat) (ts : List Int) (b : Int) : Prop := SzL n ts ∧ Sz n b ∧ b ≠ 0 ∧ ts ≠ [] ∧ ts.length ≤ 100
theorem GV.mono {n m : Nat} {ts : List Int} {b : Int} (h : GV n ts b) (hm : n ≤ m) : GV m ts b := ⟨h.1.mono hm, h.2.1.mono hm, h.2.2⟩
def addT (ts : List Int) (b : Int) (us : List Int) (c : Int) : List Int := wsum ((lcmZ b c).fdiv b) ((lcmZ b c).fdiv c) ts us
def subT (ts : List Int) (b : Int) (us : List Int) (c : Int) : List Int := wsum ((lcmZ b c).fdiv b) (-((lcmZ b c).fdiv c)) ts us
def unitL (n : Nat) (k : Int) : List Int := (List.range n).map fun i => if ((i : Nat) : Int) = k then 1 else 0
def topsOf (rs : List (Int × Int)) : List Int := rs.map fun r => r.1 * ((lcmL rs 1).fdiv r.2)
def GoodR (rs : List (Int × Int)) : Prop := rs.length ≤ 64 ∧ ∀ r ∈ rs, 0 < r.2 ∧ Sz 60 r.2 ∧ Sz 2000 r.1
abbrev ratP (C : Addr) (r : Int × Int) : PV := rat C r.1 r.2
def SeqR (C : Addr) (s : PV) (rs : List (Int × Int)) : Prop := s = .lst (rs.map (ratP C)) ∨ s = .tup (rs.map (ratP C))
abbrev thg (ts : List Int) (b : Int) : PV := .tup [lstI ts, .int b]
/-! ### zeros at the end -/
def trim : List Int → List Int
  | [] => []
  | t :: ts => match trim ts with
    | [] => if t = 0 then [] else [t]
    | u :: us => t :: u :: us
theorem trim_nil {ts : List Int} : (∀ t ∈ ts, t = 0) → trim ts = [] := by
  induction ts with
  | nil => intro _; rfl
  | cons t ts ih =>
    intro h
    have h1 := ih fun t ht => h t (.tail _ ht)
    have h2 := h t (.head _)
    subst h2
    show (match trim ts with
      | [] => if (0 : Int) = 0 then [] else [0]
      | u :: us => 0 :: u :: us) = []
    rw [h1]
    rfl
theorem trim_app {us vs : List Int} (h : ∀ v ∈ vs, v = 0) : trim (us ++ vs) = trim us := by
  induction us with
  | nil => exact trim_nil h
  | cons u us ih =>
    show (match trim (us ++ vs) with
      | [] => if u = 0 then [] else [u]
      | x :: xs => u :: x :: xs) = _
    rw [ih]
    rfl
theorem trim_full {us : List Int} {t : Int} (h : t ≠ 0) : trim (us ++ [t]) = us ++ [t] := by
  induction us with
  | nil => exact if_neg h
  | cons u us ih =>
    show (match trim (us ++ [t]) with
      | [] => if u = 0 then [] else [u]
      | x :: xs => u :: x :: xs) = _
    rw [ih]
    cases us <;> rfl
theorem trim_take {ts : List Int} {n : Nat} (hn : n ≤ ts.length) (hz : ∀ (j : Nat) (t : Int), n ≤ j → ts[j]? = some t → t = 0) (h : n = 0 ∨ ∃ t, ts[n - 1]? = some t ∧ t ≠ 0) : ts.take n = trim ts := by
  have e1 : trim ts = trim (ts.take n) := by
    have := trim_app (us := ts.take n) (vs := ts.drop n) (fun v hv => by
      obtain ⟨j, hj⟩ := List.getElem?_of_mem hv
      rw [List.getElem?_drop] at hj
      exact hz _ _ (Nat.le_add_right _ _) hj)
    rw [List.take_append_drop] at this
    exact this
  rw [e1]
  rcases h with h | ⟨t, h1, h2⟩
  · subst h; rfl
  · by_cases h0 : n = 0
    · subst h0; rfl
    have : ts.take n = ts.take (n - 1) ++ [t] := by
      have hl : n - 1 < ts.length := by omega
      have e : n = (n - 1) + 1 := by omega
      rw [e, List.take_add_one, show n - 1 + 1 - 1 = n - 1 by omega, h1]
      rfl
    rw [this, trim_full h2]
theorem trim_idem : ∀ ts : List Int, trim (trim ts) = trim ts := by
  intro ts
  induction ts with
  | nil => rfl
  | cons t ts ih =>
    cases h : trim ts with
    | nil =>
      by_cases e : t = 0
      · have : trim (t :: ts) = [] := by
          show (match trim ts with
            | [] => if t = 0 then [] else [t]
            | u :: us => t :: u :: us) = _
          rw [h]
          exact if_pos e
        rw [this]; rfl
      · have : trim (t :: ts) = [t] := by
          show (match trim ts with
            | [] => if t = 0 then [] else [t]
            | u :: us => t :: u :: us) = _
          rw [h]
          exact if_neg e
        rw [this]
        exact if_neg e
    | cons u us =>
      have : trim (t :: ts) = t :: u :: us := by
        show (match trim ts with
          | [] => if t = 0 then [] else [t]
          | u :: us => t :: u :: us) = _
        rw [h]
      rw [this]
      rw [h] at ih
      show (match trim (u :: us) with
        | [] => if t = 0 then [] else [t]
        | u :: us => t :: u :: us) = _
      rw [ih]
theorem trim_len (ts : List Int) : (trim ts).length ≤ ts.length := by
  induction ts with
  | nil => exact Nat.le_refl _
  | cons t ts ih =>
    cases h : trim ts with
    | nil =>
      have : trim (t :: ts) = if t = 0 then [] else [t] := by
        show (match trim ts with
          | [] => if t = 0 then [] else [t]
          | u :: us => t :: u :: us) = _
        rw [h]
      rw [this]
      split <;> simp
    | cons u us =>
      have : trim (t :: ts) = t :: u :: us := by
        show (match trim ts with
          | [] => if t = 0 then [] else [t]
          | u :: us => t :: u :: us) = _
        rw [h]
      rw [this]
      rw [h] at ih
      simp at ih ⊢
      exact ih
theorem trim_split (ts : List Int) : ∃ zs : List Int, ts = trim ts ++ zs ∧ ∀ z ∈ zs, z = 0 := by
  induction ts with
  | nil => exact ⟨[], rfl, fun _ h => nomatch h⟩
  | cons t ts ih =>
    obtain ⟨zs, e, hz⟩ := ih
    cases h : trim ts with
    | nil =>
      rw [h] at e
      by_cases c : t = 0
      · have : trim (t :: ts) = [] := by
          show (match trim ts with
            | [] => if t = 0 then [] else [t]
            | u :: us => t :: u :: us) = _
          rw [h]
          exact if_pos c
        refine ⟨t :: ts, by rw [this]; rfl, fun z hm => ?_⟩
        rcases List.mem_cons.mp hm with rfl | hm
        · exact c
        · rw [e] at hm; exact hz z hm
      · have : trim (t :: ts) = [t] := by
          show (match trim ts with
            | [] => if t = 0 then [] else [t]
            | u :: us => t :: u :: us) = _
          rw [h]
          exact if_neg c
        refine ⟨zs, ?_, hz⟩
        rw [this]
        show t :: ts = t :: zs
        rw [e]
        rfl
    | cons u us =>
      have : trim (t :: ts) = t :: u :: us := by
        show (match trim ts with
          | [] => if t = 0 then [] else [t]
          | u :: us => t :: u :: us) = _
        rw [h]
      refine ⟨zs, ?_, hz⟩
      rw [this]
      rw [h] at e
      show t :: ts = t :: (u :: us ++ zs)
      rw [← e]
theorem trim_len_take (ts : List Int) : ts.take (trim ts).length = trim ts := by
  obtain ⟨zs, e, _⟩ := trim_split ts
  have h : (trim ts ++ zs).take (trim ts).length = trim ts := List.take_left' rfl
  rw [← e] at h
  exact h
theorem gcdNs_app (us vs : List Int) : ∀ p : Nat, gcdNs (us ++ vs) p = gcdNs vs (gcdNs us p) := by
  induction us with
  | nil => intro p; rfl
  | cons u us ih => intro p; exact ih _
theorem gcdNs_zeros {zs : List Int} : ∀ {p : Nat}, (∀ z ∈ zs, z = 0) → gcdNs zs p = p := by
  induction zs with
  | nil => intro p _; rfl
  | cons z zs ih =>
    intro p h
    show gcdNs zs (Nat.gcd p z.natAbs) = p
    rw [h z (.head _), Int.natAbs_zero, Nat.gcd_zero_right]
    exact ih fun x hx => h x (.tail _ hx)
theorem shared_trim (ts : List Int) (b : Int) : shared (trim ts) b = shared ts b := by
  obtain ⟨zs, e, hz⟩ := trim_split ts
  rw [shared_eq, shared_eq]
  have : gcdNs ts b.natAbs = gcdNs (trim ts) b.natAbs := by
    have h := gcdNs_app (trim ts) zs b.natAbs
    rw [← e, gcdNs_zeros hz] at h
    exact h
  rw [this]
/-! ### while, with the changed slots -/
theorem whileS {c : QT} {q : QS} {D : QD} {ρ : PSt} (is : List Nat) (I : Nat → List (Option Sl) → Prop) (m0 : Nat) (v0 : List (Option Sl)) (e0 : ρ = sets ρ is v0) (h0 : I m0 v0)
    (hs : ∀ (m : Nat) (vs : List (Option Sl)) (N : PSt → Prop), (∀ m' vs', m' < m → I m' vs' → N (sets ρ is vs')) → I m vs → c (sets ρ is vs) (D.ex (sets ρ is vs)) fun b => if b = true then q { D with nx := N, ct := N, bk := D.nx } (sets ρ is vs) else D.nx (sets ρ is vs)) : qWhile c q D ρ :=
  ⟨fun m ρ' => ∃ vs, I m vs ∧ ρ' = sets ρ is vs, ⟨m0, v0, h0, e0⟩, by
    rintro m ρ' ⟨vs, h, rfl⟩
    exact hs m vs (fun ρ' => ∃ m', m' < m ∧ ∃ vs, I m' vs ∧ ρ' = sets ρ is vs) (fun m' vs' hm h' => ⟨m', hm, vs', h', rfl⟩) h⟩
theorem atI_map {ts : List Int} {k : Int} {t : Int} (ht : atI ts k = some t) : atI (ts.map PV.int) k = some (.int t) := by
  unfold atI at ht ⊢
  rw [List.length_map]
  cases e : ixN ts.length k with
  | none => rw [e] at ht; cases ht
  | some j =>
    rw [e] at ht
    show (ts.map PV.int)[j]? = _
    have ht : ts[j]? = some t := ht
    rw [List.getElem?_map, ht]
    rfl
theorem atI_get {ts : List Int} {j : Nat} {t : Int} (h : ts[j]? = some t) : atI (ts.map PV.int) (j : Int) = some (.int t) := atI_map (by rw [atI_nth]; exact h)
theorem beq_ints (ts us : List Int) : (ts == us) = decide (ts = us) := by
  by_cases h : ts = us
  · subst h; simp
  · rw [decide_eq_false h, beq_eq_false_iff_ne]
    exact h
theorem if_orM {c d : Prop} [Decidable c] [Decidable d] {A B : Prop} : (if c then A else if d then A else B) = (if c ∨ d then A else B) := by
  by_cases h : c
  · rw [if_pos h, if_pos (.inl h)]
  · rw [if_neg h]
    by_cases h2 : d
    · rw [if_pos h2, if_pos (.inr h2)]
    · rw [if_neg h2, if_neg (by rintro (z | z); exact h z; exact h2 z)]
theorem if_andM {c d : Prop} [Decidable c] [Decidable d] {A B : Prop} : (if c then (if d then A else B) else B) = (if c ∧ d then A else B) := by
  by_cases h : c
  · rw [if_pos h]
    by_cases h2 : d
    · rw [if_pos h2, if_pos ⟨h, h2⟩]
    · rw [if_neg h2, if_neg (fun z => h2 z.2)]
  · rw [if_neg h, if_neg (fun z => h z.1)]
theorem lcmL_app (rs : List (Int × Int)) (r : Int × Int) : ∀ l : Int, lcmL (rs ++ [r]) l = lcmZ (lcmL rs l) r.2 := by
  induction rs with
  | nil => intro l; rfl
  | cons x xs ih => intro l; exact ih _
theorem take_succ {α : Type} {l : List α} {k : Nat} {x : α} (h : l[k]? = some x) : l.take (k + 1) = l.take k ++ [x] := by
  rw [List.take_add_one, h]
  rfl
theorem noLs_ints : ∀ ns : List Int, noL.noLs (ns.map PV.int) = true
  | [] => rfl
  | n :: ns => by
    show (true && noL.noLs (ns.map PV.int)) = true
    rw [noLs_ints ns]
    rfl
theorem noL_vec (C : Addr) (ts : List Int) (b : Int) : noL (vec C ts b) = true := by
  show (noL.noLs (ts.map PV.int) && (true && true)) = true
  rw [noLs_ints]
  rfl
theorem filt_all (ts : List Int) : (ts.all fun t => t == 0) = decide ((ts.filter fun t => !decide (t = 0)).map id = []) := by
  induction ts with
  | nil => rfl
  | cons t ts ih =>
    rw [List.all_cons, ih]
    by_cases h : t = 0
    · subst h
      rfl
    · rw [show (t == 0) = false from beq_eq_false_iff_ne.mpr h, List.filter_cons_of_pos (by simp [h])]
      rfl
/-- the terms of a vector times a number in lowest terms -/
theorem norm_rat (ts : List Int) {b p q : Int} (hb : b ≠ 0) (hq : q ≠ 0) : normT (ts.map (· * nT p q)) (b * nB p q) = normT (ts.map (· * p)) (b * q) ∧ normB (ts.map (· * nT p q)) (b * nB p q) = normB (ts.map (· * p)) (b * q) := by
  have hs : shared [p] q ≠ 0 := sh_ne hq
  have e := norm_scale (ts.map (· * nT p q)) (b := b * nB p q) (d := shared [p] q) (Int.mul_ne_zero hb (Int.ne_of_gt (nB_pos hq))) hs
  rw [List.map_map] at e
  have e1 : ts.map ((· * shared [p] q) ∘ (· * nT p q)) = ts.map (· * p) := map_mem fun t _ => by
    show t * nT p q * shared [p] q = t * p
    rw [Int.mul_assoc, nT_mul]
  have e2 : b * nB p q * shared [p] q = b * q := by rw [Int.mul_assoc, nB_mul]
  rw [e1, e2] at e
  exact ⟨e.1.symm, e.2.symm⟩
theorem eqv_sh {d : PyData} (h : SeqAt.shaped d = true) : PyData.eqv d d = true := by
  unfold SeqAt.shaped at h
  rw [Bool.and_eq_true] at h
  exact PySem.SeqAt.eqv_refl d h.1
/-- pairs of ints as data -/
theorem toDs_pairs (f : Int × Int → PV) (g : Int × Int → PyData) (hf : ∀ r, toD (f r) = some (g r)) : ∀ rs : List (Int × Int), toDs (rs.map f) = some (rs.map g)
  | [] => rfl
  | r :: rs => by
    show (match toD (f r), toDs (rs.map f) with
      | some d, some ds => some (d :: ds)
      | _, _ => none) = _
    rw [hf, toDs_pairs f g hf rs]
    rfl
theorem can_pairs : ∀ rs : List (Int × Int), PyData.canLayAll0 (rs.map fun r => .tuple [.int r.1, .int r.2]) = true
  | [] => rfl
  | r :: rs => by
    show (PyData.canLay0 (.tuple [.int r.1, .int r.2]) && PyData.canLayAll0 (rs.map fun r => .tuple [.int r.1, .int r.2])) = true
    rw [can_pairs rs]
    rfl
theorem depth_pairs : ∀ rs : List (Int × Int), PyData.depthAll (rs.map fun r => .tuple [.int r.1, .int r.2]) ≤ 1
  | [] => Nat.zero_le _
  | r :: rs => by
    show max (PyData.depth (.tuple [.int r.1, .int r.2])) (PyData.depthAll (rs.map fun r => .tuple [.int r.1, .int r.2])) ≤ 1
    have h := depth_pairs rs
    have h2 : PyData.depth (.tuple [.int r.1, .int r.2]) = 1 := rfl
    omega
theorem toD_pairs (rs : List (Int × Int)) : toD (.lst (rs.map fun r => .tup [.int r.1, .int r.2])) = some (.list (rs.map fun r => .tuple [.int r.1, .int r.2])) := by
  show (toDs _).map PyData.list = _
  rw [toDs_pairs _ (fun r => .tuple [.int r.1, .int r.2]) (fun r => rfl)]
  rfl
theorem shaped_pairs (rs : List (Int × Int)) : SeqAt.shaped (.list (rs.map fun r => .tuple [.int r.1, .int r.2])) = true := by
  show (PyData.canLayAll0 (rs.map fun r => .tuple [.int r.1, .int r.2]) && decide (PyData.depthAll (rs.map fun r => .tuple [.int r.1, .int r.2]) + 1 ≤ 64)) = true
  rw [can_pairs]
  have := depth_pairs rs
  simp
  omega
/-- a comprehension over places -/
theorem coll_places {t : PV → PSt → (PSt → Prop) → Prop} {qe : QE} {ρ : PSt} {Q : List PV → Prop} (f : Nat → Int) (n : Nat) (h : ∀ i < n, ∀ R : PV → Prop, R (.int (f i)) → t (.int (0 + (i : Int))) ρ fun ρ1 => qe ρ1 (fun _ => False) R) (q : Q (((List.range n).map f).map PV.int)) : qColl t qYes qe ρ Q (rangeP 0 n) [] := by
  refine coll_range (fun i => .int (f i)) n h ?_
  rw [List.map_map] at q
  exact q
theorem range_zip (F : Int → Int → Int) {ts us : List Int} (h : ts.length = us.length) : (List.range ts.length).map (fun i => F (ts.getD i 0) (us.getD i 0)) = List.zipWith F ts us := by
  refine List.ext_getElem (by simp [h]) fun i h1 h2 => ?_
  simp at h1 h2
  have h3 : i < us.length := by omega
  simp [List.getD_eq_getElem?_getD, List.getElem?_eq_getElem h1, List.getElem?_eq_getElem h3]
theorem range_map (F : Int → Int) (ts : List Int) : (List.range ts.length).map (fun i => F (ts.getD i 0)) = ts.map F := by
  refine List.ext_getElem (by simp) fun i h1 h2 => ?_
  simp at h1 h2
  simp [List.getD_eq_getElem?_getD, List.getElem?_eq_getElem h1]
theorem atI_getD {ts : List Int} {j : Nat} (h : j < ts.length) : atI (ts.map PV.int) (j : Int) = some (.int (ts.getD j 0)) := by
  rw [atI_get (List.getElem?_eq_getElem h)]
  simp [List.getD_eq_getElem?_getD, List.getElem?_eq_getElem h]
theorem getD_mem {ts : List Int} {j : Nat} (h : j < ts.length) : ts.getD j 0 ∈ ts := by
  simp [List.getD_eq_getElem?_getD, List.getElem?_eq_getElem h]
theorem wsum_cross (ts us : List Int) {b c L u v s : Int} (hu : u * b = L) (hv : v * c = s * L) : (wsum u v ts us).map (· * (b * c)) = (List.zipWith (fun x z => x * c + s * z * b) ts us).map (· * L) := by
  unfold wsum
  rw [List.map_zipWith, List.map_zipWith]
  congr 1
  funext x z
  grind
theorem of_cross (us : List Int) (d q : Nat → Int) (hd : ∀ i, 0 < d i) {m : Int} (hq : ∀ i, d i * q i = m) (rs : List (Int × Int)) (hr : rs = (List.range us.length).map fun i => (nT (us.getD i 0) (d i), nB (us.getD i 0) (d i))) : (topsOf rs).map (· * m) = ((List.range us.length).map fun i => us.getD i 0 * q i).map (· * lcmL rs 1) := by
  have hdv : ∀ i < us.length, nB (us.getD i 0) (d i) ∣ lcmL rs 1 := fun i hi => lcmL_dr (rs := rs) (l := 1) (nT (us.getD i 0) (d i), nB (us.getD i 0) (d i)) (by rw [hr]; exact List.mem_map.mpr ⟨i, List.mem_range.mpr hi, rfl⟩)
  unfold topsOf
  generalize lcmL rs 1 = L at *
  subst hr
  rw [List.map_map, List.map_map, List.map_map]
  refine List.map_congr_left fun i hi => ?_
  have hi := List.mem_range.mp hi
  show nT (us.getD i 0) (d i) * L.fdiv (nB (us.getD i 0) (d i)) * m = us.getD i 0 * q i * L
  have h1 := nT_mul (us.getD i 0) (d i)
  have h2 := nB_mul (us.getD i 0) (d i)
  have h3 := fdiv_dvd (hdv i hi)
  have h4 := hq i
  generalize nT (us.getD i 0) (d i) = t at *
  generalize L.fdiv (nB (us.getD i 0) (d i)) = z at *
  generalize nB (us.getD i 0) (d i) = n at *
  generalize shared [us.getD i 0] (d i) = s at *
  generalize us.getD i 0 = u at *
  generalize d i = e at *
  generalize q i = f at *
  grind
theorem ixN_nat {n k : Nat} (h : k < n) : ixN n (k : Int) = some k := by
  unfold ixN
  rw [if_pos (by omega), if_pos (by omega), Int.toNat_natCast]
theorem ixN_0 (n : Nat) : ixN (n + 1) 0 = some 0 := ixN_nat (Nat.succ_pos n)
theorem toD_nil : toD (.lst []) = some (.list []) := rfl
theorem shaped_nil : SeqAt.shaped (.list []) = true := by decide +kernel
theorem eqv_nil (ns : List Int) : PyData.eqv (.list (ns.map PyData.int)) (.list []) = decide (ns = []) := by
  have := eqv_lst ns []
  rw [List.map_nil, beq_ints] at this
  exact this
/-- ratios to ints -/
theorem coll_rats {t : PV → PSt → (PSt → Prop) → Prop} {qe : QE} {ρ : PSt} {Q : List PV → Prop} (C : Addr) (f : Int × Int → PV) : ∀ (rs : List (Int × Int)) (acc : List PV), (∀ r ∈ rs, ∀ R : PV → Prop, R (f r) → t (ratP C r) ρ fun ρ1 => qe ρ1 (fun _ => False) R) → Q (acc ++ rs.map f) → qColl t qYes qe ρ Q (rs.map (ratP C)) acc
  | [], acc, _, q => by rw [List.map_nil, List.append_nil] at q; exact q
  | r :: rs, acc, h, q => h r List.mem_cons_self (fun v => qColl t qYes qe ρ Q (rs.map (ratP C)) (acc ++ [v])) (coll_rats C f rs _ (fun y hy => h y (List.mem_cons_of_mem _ hy)) (by rw [List.append_assoc]; exact q))
end QL

namespace QL
open PySem PySem.Spec PyProof.Rows L2
def psE0 := And.intro @qVar_eq (And.intro @qC_eq (And.intro @qOp_eq (And.intro @qI_eq (And.intro @qI0_eq (And.intro @qEq_eq (And.intro @qIsN_eq (And.intro @qUn_eq (And.intro @qNeg_eq (And.intro @qB_eq (And.intro @qNotT_eq (@qAndT_eq)))))))))))
def psE1 := And.intro @qOrT_eq (And.intro @qAndV_eq (And.intro @qOrV_eq (And.intro @qNotV_eq (And.intro @qIf_eq (And.intro @qNil_eq (And.intro @qCons_eq (And.intro @qTup_eq (And.intro @qLst_eq (And.intro @qPart_eq (And.intro @qNoPart_eq (@qSl_eq)))))))))))
def psE2 := And.intro @qNext_eq (And.intro @qSeq_eq (And.intro @qBreak_eq (And.intro @qCont_eq (And.intro @qDrop_eq (And.intro @qRet_eq (And.intro @qRetN_eq (And.intro @qIfS_eq (And.intro @qNever_eq (And.intro @qSet_eq (And.intro @qOwn_eq (@qFreeze_eq)))))))))))
def psE3 := And.intro @qApp_eq (And.intro @qPar_eq (And.intro @qUnp_eq (And.intro @qUnpL_eq (And.intro @qFldS_eq (And.intro @qForL_eq (And.intro @qForT_eq (And.intro @qForR1_eq (And.intro @qForR2_eq (And.intro @qCall_eq (And.intro @qMake_eq (@qMeth_eq)))))))))))
def psE4 := And.intro @qProp_eq (And.intro @qCB_eq (And.intro @cAbs_eq (And.intro @cInt_eq (And.intro @cGcd_eq (And.intro @cLen_eq (And.intro @cLenS_eq (And.intro @qBits_eq (And.intro @qIsi_eq (And.intro @qBin_eq (And.intro @qUna_eq (@cAbsO_eq)))))))))))
def psE5 := And.intro @qEqO_eq (And.intro @qRaise_eq (And.intro @qTry_eq (And.intro @qXi_eq (And.intro @qLenO_eq (And.intro @qForR3_eq (And.intro @qIx_l (And.intro @qIx_t (And.intro @qFld_eq (And.intro @qXf_eq (And.intro @qSetIx_eq (@qIxO_eq)))))))))))
def psE6 := And.intro @qEqD_eq (And.intro @tryD_nx (And.intro @tryD_rt (And.intro @tryD_bk (And.intro @tryD_ct (And.intro @tryD_ex (And.intro @endsP_nx (And.intro @endsP_rt (And.intro @endsP_ex (And.intro @endsI_nx (And.intro @endsI_rt (@endsI_ex)))))))))))
def psE7 := And.intro @qIL_eq (And.intro @qIT_eq (And.intro @qIR1_eq (And.intro @qIR2_eq (And.intro @qIZ_eq (And.intro @qIE_eq (And.intro @qIRev_eq (And.intro @qFor_eq (And.intro @qForP_eq (And.intro @qYes_eq (And.intro @qLc_eq (@qOwnLc_eq)))))))))))
def psE8 := And.intro @cSum_eq (And.intro @cAll_eq (And.intro @cAny_eq (And.intro @cMaxL_eq (And.intro @cMinL_eq (And.intro @cMax_eq (And.intro @cMin_eq (And.intro @cList_eq (And.intro @cTuple_eq (And.intro @cLcm_eq (And.intro @qBinI_eq (@qBinC_eq)))))))))))
def psE9 := And.intro @qBin2_eq (And.intro @qRInt_eq (And.intro @qRC_eq (And.intro @cLenO_eq (And.intro @qIxOwn_eq (And.intro @qLend_eq (And.intro @qLendT_eq (And.intro @qOwnL_eq (And.intro @qTryN_eq (And.intro @tryN_nx (And.intro @tryN_rt (@tryN_bk)))))))))))
def psE10 := And.intro @tryN_ct (And.intro @tryN_ex (And.intro @exN_nil (And.intro @exN_cons (And.intro @tName_eq (And.intro @tTup_eq (And.intro @wipe1 (@wipe2)))))))
def psE := And.intro @psE0 (And.intro @psE1 (And.intro @psE2 (And.intro @psE3 (And.intro @psE4 (And.intro @psE5 (And.intro @psE6 (And.intro @psE7 (And.intro @psE8 (And.intro @psE9 (@psE10))))))))))
def psO0 := And.intro @atI_l0 (And.intro @atI_l1 (And.intro @atI_l2 (And.intro @atI_l3 (And.intro @atI_l4 (And.intro @atI_l5 (And.intro @atI_l6 (And.intro @atI_l7 (And.intro @atI_l8 (And.intro @atI_l9 (And.intro @atI_l10 (@atI_l11)))))))))))
def psO1 := And.intro @atI_l12 (And.intro @true_and (And.intro @and_true (And.intro @if_true.{1} (And.intro @if_false.{1} (And.intro @exists_eq_left'.{1} (And.intro @exists_eq_left.{1} (And.intro @if_orM (And.intro @if_andM (And.intro @sets_nil (And.intro @sets_cons (@Option.some.injEq.{0})))))))))))
def psO2 := And.intro @Sl.ins.injEq (And.intro @Bool.false_xor (And.intro @Bool.true_xor (And.intro @beq_iff_eq.{0} (And.intro @decide_eq_true_eq (And.intro @Bool.not_true (And.intro @Bool.not_false (And.intro @Bool.false_eq_true (And.intro @Bool.not_eq_true' (And.intro @beq_eq_false_iff_ne.{0} (And.intro @decide_eq_false_iff_not (@ne_eq.{1})))))))))))
def psO3 := And.intro @not_false_eq_true (And.intro @not_true_eq_false (And.intro @true_imp_iff (And.intro @false_imp_iff (And.intro @beq_self_eq_true.{0} (And.intro @Bool.and_self (And.intro @decide_true (And.intro @decide_false (And.intro @Bool.true_or (And.intro @Bool.or_true (And.intro @Bool.false_or (@Bool.or_false)))))))))))
def psO4 := And.intro @Bool.true_and (And.intro @Bool.and_true (And.intro @Bool.false_and (And.intro @Bool.and_false (And.intro @false_or (And.intro @or_false (And.intro @true_or (And.intro @or_true (And.intro @false_and (And.intro @and_false (And.intro @lookup_hd (@lookup_tl)))))))))))
def psO5 := And.intro @putP_nil (And.intro @putP_hd (And.intro @putP_tl (And.intro @List.lookup_nil.{0,0} (And.intro @List.map_cons.{0,0} (And.intro @List.map_nil.{0,0} (And.intro @List.length_cons.{0} (And.intro @List.length_nil.{0} (And.intro @List.cons_append.{0} (And.intro @List.nil_append.{0} (And.intro @List.append_nil.{0} (@List.getElem?_cons_zero.{0})))))))))))
def psO6 := And.intro @List.getElem?_cons_succ.{0} (And.intro @List.set_cons_zero.{0} (And.intro @List.set_cons_succ.{0} (And.intro @List.getD_cons_zero.{0} (@List.getD_cons_succ.{0}))))
def psO := And.intro @psO0 (And.intro @psO1 (And.intro @psO2 (And.intro @psO3 (And.intro @psO4 (And.intro @psO5 (@psO6))))))
end QL


namespace QL
open PySem PySem.Spec PyProof.Rows L2
/-! ### the top's facts, looked at once behind the run -/
abbrev QK := PySem.W.Frag
/-- a def: where its function object is found, what it must be -/
structure DX where
  loc : QK → Addr
  nm : Str
  ql : Str
  st : Stmt
  dv : List V
abbrev FnS : Type := Option ((Str × Str) × (Arguments × FuncBody × Scope) × (Addr × List (Str × Addr) × Addr))
def fnS (K : QK) (f : Addr) : FnS := match K.lookup f with
  | some o => (match o.data with
    | .func d => some ((d.name, d.qualname), (d.params, d.body, d.scope), (d.globals, d.closure, d.builtins))
    | _ => none)
  | none => none
def DX.due (x : DX) : FnS := some ((x.nm, x.ql), (defArgs x.st, .stmts (defBody x.st), defScope x.st), (mainGlobals, [], builtinsNs))
def DX.fit (K : QK) (x : DX) : Bool := match K.lookup (x.loc K) with
  | some o => (match o.data with
    | .func d => (PySem.W.keepIn K (.ref (x.loc K)) && PySem.W.codeIn K d.code x.ql) && He.dflB K d.defaults x.dv
    | _ => false)
  | none => false
theorem DX.fun_ {K : QK} {x : DX} (e : fnS K (x.loc K) = x.due) (c : x.fit K = true) : ∃ fd, FunD K x.nm x.ql (defArgs x.st) (defBody x.st) (defScope x.st) x.dv [] (x.loc K) fd := by
  unfold fnS at e
  unfold DX.fit at c
  cases q : K.lookup (x.loc K) with
  | none =>
    rw [q] at e
    cases e
  | some o =>
    rw [q] at e c
    obtain ⟨cl, di, dt, sl⟩ := o
    cases dt with
    | func d =>
      have c : ((PySem.W.keepIn K (.ref (x.loc K)) && PySem.W.codeIn K d.code x.ql) && He.dflB K d.defaults x.dv) = true := c
      rw [Bool.and_eq_true, Bool.and_eq_true] at c
      have e : (some ((d.name, d.qualname), (d.params, d.body, d.scope), (d.globals, d.closure, d.builtins)) : FnS) = x.due := e
      unfold DX.due at e
      simp only [Option.some.injEq, Prod.mk.injEq] at e
      obtain ⟨⟨a1, a2⟩, ⟨a3, a4, a5⟩, a6, a7, a8⟩ := e
      have hd : d = PySem.W.fnOf x.nm x.ql (defArgs x.st) (defBody x.st) (defScope x.st) d.defaults d.kwdefaults d.doc d.pyModule d.annotations d.code d.closureTuple := by
        cases d
        simp only at a1 a2 a3 a4 a5 a6 a7 a8
        subst a1 a2 a3 a4 a5 a6 a7 a8
        rfl
      exact ⟨d, ⟨cl, di, d.defaults, d.kwdefaults, d.doc, d.pyModule, d.annotations, d.code, d.closureTuple, sl, hd, q, c.1.2, He.dflB_ok c.2, .inl rfl⟩, c.1.1⟩
    | _ => cases e
/-- the part of the heap that the facts look at: the module's things, the classes' things, their functions, codes, defaults -/
def kidsD (o : Obj) : List Addr := match o.data with
  | .dict es _ => es.toList.flatMap fun e => He.refV e.val
  | _ => []
def kidsF (o : Obj) : List Addr := match o.data with
  | .func f => He.refV f.code ++ He.refV f.defaults
  | _ => []
def kids1 (o : Obj) : List Addr := match o.data with
  | .func f => He.refV f.code ++ He.refV f.defaults
  | .cls c => [c.ns]
  | .fields vs => vs.toList.flatMap He.refV
  | _ => []
def lvl (g : Addr → Option Obj) (f : Obj → List Addr) (l : List Addr) : List Addr := l.flatMap fun a => match g a with
  | some o => f o
  | none => []
def asX (g : Addr → Option Obj) : List Addr := match lvl g kidsD [mainGlobals] with
  | l1 => (match lvl g kids1 l1 with
    | l2 => (match lvl g kidsD l2 with
      | l3 => (match lvl g kids1 l3 with
        | l4 => mainGlobals :: cStatics :: builtinsNs :: (l1 ++ (l2 ++ (l3 ++ (l4 ++ lvl g kidsF l4)))))))
/-- the facts are Bools -/
def lookX (bs : List (QK → Bool)) (ds : List DX) (K : QK) : Bool × List FnS := (bs.all (fun b => b K) && ds.all (fun x => x.fit K), ds.map fun x => fnS K (x.loc K))
def dueX (ds : List DX) : Bool × List FnS := (true, ds.map DX.due)
def hookX (bs : List (QK → Bool)) (ds : List DX) : PySem.W.Hook where
  α := Bool × List FnS
  obs := fun s => lookX bs ds (He.frG s.heap.get? (asX s.heap.get?))
  val := fun _ => dueX ds
  says := fun _ h => ∃ K : QK, K.In h ∧ lookX bs ds K = dueX ds
  of := fun _ s e => ⟨_, He.frG_in, e⟩
  keeps := fun _ h h' ⟨K, i, c⟩ k => ⟨K, PySem.W.Frag.In.keeps i k, c⟩
def obX (bs : List (QK → Bool)) (ds : List DX) (s : PySem.W.SharedT) : Bool × List FnS := lookX bs ds (He.frG (HandSHeadRun.getT s) (asX (HandSHeadRun.getT s)))
theorem obX_eq (bs : List (QK → Bool)) (ds : List DX) (s : PySem.W.SharedT) : obX bs ds s = (hookX bs ds).obs s.abs := by
  have e : HandSHeadRun.getT s = s.abs.heap.get? := funext (HandSHeadRun.getT_eq s)
  show lookX bs ds (He.frG (HandSHeadRun.getT s) (asX (HandSHeadRun.getT s))) = lookX bs ds (He.frG s.abs.heap.get? (asX s.abs.heap.get?))
  rw [e]
theorem lookX_b {bs : List (QK → Bool)} {ds : List DX} {K : QK} (c : lookX bs ds K = dueX ds) (i : Nat) {b : QK → Bool} (h : bs[i]? = some b := by rfl) : b K = true := by
  have c1 : (bs.all (fun b => b K) && ds.all (fun x => x.fit K)) = true := congrArg Prod.fst c
  rw [Bool.and_eq_true] at c1
  exact List.all_eq_true.mp c1.1 b (List.mem_of_getElem? h)
theorem lookX_d {bs : List (QK → Bool)} {ds : List DX} {K : QK} (c : lookX bs ds K = dueX ds) (i : Nat) {x : DX} (h : ds[i]? = some x := by rfl) : ∃ fd, FunD K x.nm x.ql (defArgs x.st) (defBody x.st) (defScope x.st) x.dv [] (x.loc K) fd := by
  have c1 : (bs.all (fun b => b K) && ds.all (fun x => x.fit K)) = true := congrArg Prod.fst c
  rw [Bool.and_eq_true] at c1
  have c2 : ds.map (fun x => fnS K (x.loc K)) = ds.map DX.due := congrArg Prod.snd c
  have c3 : (ds.map fun x => fnS K (x.loc K))[i]? = (ds.map DX.due)[i]? := by rw [c2]
  rw [List.getElem?_map, List.getElem?_map, h] at c3
  exact DX.fun_ (Option.some.inj c3) (List.all_eq_true.mp c1.2 x (List.mem_of_getElem? h))
/-! ### addresses -/
def rec1 (K : QK) (p : Addr) (n : String) : Addr := match PySem.W.recIn K p n with
  | some (.ref f :: _) => f
  | _ => 0
def recR (K : QK) (p : Addr) (n : String) : List Value := match PySem.W.recIn K p n with
  | some (_ :: r) => r
  | _ => []
/-- none, or a def -/
def nrB : Option Value → Bool
  | none => true
  | some (.ref _) => true
  | _ => false
theorem nrB_ok {v : Option Value} (h : nrB v = true) : v = none ∨ ∃ g : Addr, v = some (.ref g) := by
  match v, h with
  | none, _ => exact .inl rfl
  | some (.ref g), _ => exact .inr ⟨g, rfl⟩
/-- an exception's class -/
def oexB (K : QK) (C : Addr) : Bool := match K.lookup C with
  | some o => (match o.cls, o.data, o.slots.toList with
    | .type t, .cls c, [_, _, _, _, some (.builtin n), _] => (decide (t = "type") && (c.hasDict && !c.hasDel)) && (decide (n = "ValueError.__new__") && (match c.mro with
      | .ref D :: bm => decide (D = C) && PySem.HandSPX.refsVE bm
      | _ => false))
    | _, _, _ => false)
  | none => false
theorem oexB_ok {K : QK} {C : Addr} (h : oexB K C = true) : ∃ nm q N bs bm sn sub ab col dd k0 k1 k2 k3 k5, K.lookup C = some (excClassObj nm q C N bs bm true sn sub ab col dd k0 k1 k2 k3 k5 "ValueError.__new__") ∧ PySem.HandSPX.refsVE bm = true := by
  unfold oexB at h
  cases q : K.lookup C with
  | none =>
    rw [q] at h
    cases h
  | some o =>
    rw [q] at h
    obtain ⟨cl, dd, dt, sl⟩ := o
    simp only at h
    split at h
    · rename_i t c k0 k1 k2 k3 n k5 hs
      obtain ⟨nm, bs, mro, ns, qn, hd, sn, sub, ab, col, del⟩ := c
      simp only [Bool.and_eq_true, decide_eq_true_eq, Bool.not_eq_true'] at h
      obtain ⟨⟨rfl, rfl, rfl⟩, rfl, h⟩ := h
      split at h
      · rename_i D bm
        simp only [Bool.and_eq_true, decide_eq_true_eq] at h
        obtain ⟨rfl, hb⟩ := h
        have e : sl = #[k0, k1, k2, k3, some (.builtin "ValueError.__new__"), k5] := by
          obtain ⟨l⟩ := sl
          simp only at hs
          rw [hs]
        subst e
        exact ⟨nm, qn, ns, bs, bm, sn, sub, ab, col, dd, k0, k1, k2, k3, k5, rfl, hb⟩
      · cases h
    · cases h
end QL
namespace QL
open PySem PySem.Spec PyProof.Rows L2
/-- a law's end over a written part that the hook gives -/
theorem walkX {l : PySem.W.OpenLaw} {m k : Nat} {q : Program} {no : List Str} {XP : (Str → Option Value) → Heap → Prop} {YP : World → Heap → Prop} {d : DefRec} {cx : World → CXT} {x : Str} (h1 : l.most = some m) (h2 : m ≤ sizeLine) (h3 : d.params.defaults = []) (h4 : Room k callerA)
    (F : ∀ (w : World) (mg : Str → Option Value) (fa : Addr) (h : Heap), YP w h → h.Ns mainGlobals mg → mg d.name = some (.ref fa) → ∃ (K : QK) (fd : FuncData) (P0 : Sp), K.In h ∧ (∀ (s : Shared) (u : Value), BindsTo s fd ⟨[u], []⟩ [(x, u)]) ∧
      (∀ (H : Hp) (a : Addr) (ns : List Int), ns.length ≤ m → Only H → SqL K H a (ns.map V.int) → P0 [.ref a] H (fun v _ => v = .bl true) fun _ _ _ => False) ∧ ∀ b : Heap, K.In b → b.Ns mainGlobals mg → FnOk l.prog w K mg b (cx w) k fa fd [x] P0)
    (h5 : ∀ (w : World) (H : Hp) (s : Shared) (e : Value) (s' : Shared), cx w [] H s (fun _ _ _ => False) e s' → False) : PySem.W.WalkO q no XP YP l.row.toRowW d [] (fun f vs => PySem.call f vs) := by
  refine Att.attach_call h1 h3 fun w sa sb mg mb fa o pm cd doc a us zs Gx Yx e1 e2 e3 e4 e5 e6 e7 e8 => ?_
  obtain ⟨K, fd, P0, kin, kb, ks, kf⟩ := F w mg fa _ Yx Gx.T.g e4
  exact law_call kin Gx.T.g Gx.T.b Gx.T.builtins Gx.T.nolimit e8 e5 e6 (Nat.le_trans e7 h2) h4 kf kb (fun H u1 u2 => ks H a zs e7 u1 u2) fun H e s' => h5 w H sb e s'
end QL
namespace QL
open PySem PySem.Spec PyProof.Rows L2
/-- a static method's way off its class -/
def stB (K : QK) (C : Addr) (m : Str) (p : Addr) : Bool := match PySem.W.findCls K (.ref C) (.type "type") m with
  | some (.get g a o t) => (decide (g = .builtin "staticmethod.__get__") && decide (a = .ref p)) && (decide (o = .none) && decide (t = .ref C))
  | _ => false
theorem stB_ok {K : QK} {C : Addr} {m : Str} {p : Addr} (h : stB K C m p = true) : PySem.W.findCls K (.ref C) (.type "type") m = some (.get (.builtin "staticmethod.__get__") (.ref p) .none (.ref C)) := by
  unfold stB at h
  split at h
  · rename_i g a o t e
    simp only [Bool.and_eq_true, decide_eq_true_eq] at h
    obtain ⟨⟨rfl, rfl⟩, rfl, rfl⟩ := h
    exact e
  · cases h
end QL

namespace QL
open PySem PySem.W PySem.Calls PyProof.Rows HandSHeadRun
noncomputable section
/-! ### the text's opening (its imports), run over the tree as the top is -/
def goE (st : SharedT → Thread → Option (SharedT × Thread)) : Nat → SharedT → Thread → Option SharedT
  | 0, _, _ => none
  | m + 1, s, t => match t.atExitBegin with
    | some l => (match l with
      | [] => some s
      | _ :: _ => none)
    | none => (match st s t with
      | some x => frS x.1 fun z => goE st m z x.2
      | none => none)
theorem goE_ok {tb : String → Option Builtin} {p : Program} {w : World} : ∀ {m : Nat} {s z : SharedT} {t : Thread}, goE (stepT (denote tb) p w) m s t = some z → importEnds tb p w m s.abs t = some z.abs := by
  intro m
  induction m with
  | zero => intro s z t h; cases h
  | succ m ih =>
    intro s z t h
    unfold goE at h
    unfold importEnds
    cases e : t.atExitBegin with
    | some l =>
      rw [e] at h
      cases l with
      | nil => exact congrArg (Option.map SharedT.abs) h
      | cons _ _ => cases h
    | none =>
      rw [e] at h
      cases k : stepT (denote tb) p w s t with
      | none => rw [k] at h; cases h
      | some x =>
        rw [k] at h
        have h1 : (frS x.1 fun z => goE (stepT (denote tb) p w) m z x.2) = some z := h
        rw [frS_eq] at h1
        have := stepT_spec (s := s) (s' := x.1) (t := t) (t' := x.2) k
        simp only [this]
        exact ih h1
def fence1 (m : Str) (s : SharedT) : Option SharedT := match boundIn s.abs.heap sysModules m, tameNamesOf? m with
  | some (.ref a), some row => (match getT s a with
    | some o => (match o.dict with
      | some D => (match getT s D, s.tree.get D with
        | some od, some _ => (match fenceDict? m row od with
          | some u => some { s with tree := s.tree.set D fun _ => u }
          | none => none)
        | _, _ => none)
      | none => none)
    | none => none)
  | _, _ => none
theorem fence1_ok {m : Str} {s z : SharedT} (h : fence1 m s = some z) : fenceModule? m s.abs = some z.abs := by
  unfold fence1 at h
  unfold fenceModule?
  split at h
  · rename_i a row e1 e2
    rw [e1, e2]
    simp only
    rw [← getT_eq]
    split at h
    · rename_i o e3
      rw [e3]
      simp only
      split at h
      · rename_i D e4
        rw [e4]
        simp only
        rw [← getT_eq]
        split at h
        · rename_i od x e5 e6
          rw [e5]
          simp only
          split at h
          · rename_i u e7
            rw [e7]
            cases h
            show some _ = some _
            congr 1
            show Shared.mk _ _ _ _ _ = Shared.mk _ _ _ _ _
            congr 1
            exact (absHeap_set e6).symm
          · cases h
        · cases h
      · cases h
    · cases h
  · cases h
def fenceL : List Str → SharedT → Option SharedT
  | [], s => some s
  | m :: r, s => match fence1 m s with
    | some z => fenceL r z
    | none => none
theorem fenceL_ok : ∀ {l : List Str} {s z : SharedT}, fenceL l s = some z → fenceAll? l s.abs = some z.abs := by
  intro l
  induction l with
  | nil => intro s z h; exact congrArg (Option.map SharedT.abs) h
  | cons m r ih =>
    intro s z h
    unfold fenceL at h
    cases e : fence1 m s with
    | none => rw [e] at h; cases h
    | some u =>
      rw [e] at h
      unfold fenceAll?
      rw [fence1_ok e]
      exact ih h
def start0 (p : Program) (x : BT × Nat) : SharedT := ⟨x.1, x.2, (start (opening p)).1.heap.life, (start (opening p)).1.gens, (start (opening p)).1.drawn, (start (opening p)).1.toks, (start (opening p)).1.os⟩
/-- the opening's end, fenced; the top's end -/
def fullF (s0 s1 : SharedT → Thread → Option (SharedT × Thread)) (M : Nat) (p : Program) : Option (SharedT × SharedT) := match putAll (start (opening p)).1.heap.objs.toList .nil 0 with
  | none => none
  | some x => (match goE s0 M (start0 p x) (start (opening p)).2 with
    | none => none
    | some a => (match fenceL (importedModules p.main.body) a with
      | none => none
      | some b => (match b.abs.heap.isNs mainGlobals && b.gens.size == 0, b.abs.heap.nsMap mainGlobals "__annotations__" with
        | true, some v => frS b fun b => (match goF s1 b.n (some v) M b (topStub p) with
          | some c => some (b, c)
          | none => none)
        | _, _ => none)))
theorem fullF_ok {M N : Nat} {p : Program} {w : World} {b c : SharedT} (h : fullF (stepT (denote treeTable) (opening p) w) (stepT (denote treeTable) p w) M p = some (b, c)) (hn : p.main.body.any namesNumpy = false) (le : M ≤ N) (hl : looksF p b.abs.heap c.abs = true) :
    openEnds treeTable p w N = some c.abs := by
  unfold fullF at h
  split at h
  · cases h
  rename_i x e1
  split at h
  · cases h
  rename_i a e2
  split at h
  · cases h
  rename_i b' e3
  split at h
  · rename_i v e4 e5
    rw [frS_eq] at h
    split at h
    · rename_i c' e6
      cases h
      have q1 : (start0 p x).abs = (start (opening p)).1 := by
        have := putAll_heap (h := (start (opening p)).1.heap) (t := x.1) (n := x.2) e1
        unfold start0 SharedT.abs
        rw [this]
      have q2 := goE_ok e2
      rw [q1] at q2
      have q3 := importEnds_mono (N - M) _ _ _ _ q2
      rw [show M + (N - M) = N by omega] at q3
      have q4 : fencedOpening treeTable p w N = some b.abs := by
        unfold fencedOpening
        rw [q3]
        show fenceModules? p a.abs = some b.abs
        unfold fenceModules?
        rw [fenceL_ok e3]
        show (if p.main.body.any namesNumpy then _ else some b.abs) = some b.abs
        rw [hn]
        rfl
      have q5 := topRun_mono (N - M) _ _ _ _ (goF_ok e6)
      rw [show M + (N - M) = N by omega] at q5
      unfold openEnds
      rw [q4]
      show topFrom treeTable p w N b.abs = some c.abs
      unfold topFrom
      have e4' : (b.abs.heap.isNs mainGlobals && b.abs.gens.size == 0) = true := e4
      have sz : b.abs.heap.objs.size = b.n := absHeap_size _ _ _
      simp only [e4', e5, sz, q5]
      have hl' := hl
      unfold looksF at hl'
      simp only [Option.bind_some, hl']
    · cases h
  · cases h
theorem fullQ_eq (M : Nat) (p : Program) (w : World) : fullF (stepT (denote treeTable) (opening p) w) (stepT (denote treeTable) p w) M p = fullF (stepQ (denQ tabQ) (opening p) w) (stepQ (denQ tabQ) p w) M p := by
  rw [stepQ_eq, denQ_eq, tabQ_eq]
/-- the whole run's equation -/
def RunX (r : OpenRow) (q : Program) (H : Hook) (ob : SharedT → H.α) (M : Nat) (loose : List PySem.Str) (w : World) : Prop :=
  (fullF (stepQ (denQ tabQ) (opening r.prog) w) (stepQ (denQ tabQ) r.prog w) M r.prog).map (fun x => (looksF r.prog x.1.abs.heap x.2.abs, seenQ q loose (importedModules r.prog.main.body) (fun s => xlAt q [] s && recOk r.toRowW.records s) x.2.abs, ob x.2)) = some (true, openGood q loose, H.val w)
theorem headX {r : OpenRow} {q : Program} {H : Hook} {ob : SharedT → H.α} {M : Nat} {loose : List PySem.Str} {d : DefRec} {kwd : List (PySem.Str × PySem.Expr)} (ho : ∀ s : SharedT, ob s = H.obs s.abs) (hn : r.prog.main.body.any namesNumpy = false) (run : ∀ w, RunX r q H ob M loose w)
    (g1 : defOf q r.name = some (d, kwd)) (g2 : r.prog.theDef r.name = some (d.params, d.body, d.scope)) (g3 : kwWritten? d.params.kwonlyargs d.params.kw_defaults = some kwd) (g4 : (!r.writes || r.records.isEmpty) = true) (g5 : r.wellSaid = true)
    (g6 : (chainsOk q && opensWell r.prog && (frees r.toRowW && r.within.isEmpty)) = true) (g7 : r.prog.bare) (g8 : r.toRowW.promised) (g9 : WalkO q loose (XL q []) H.says r.toRowW d kwd fun f vs => PySem.call f vs) : r.Holds := by
  have left : LeftO r.prog q loose (fun s => xlAt q [] s && recOk r.toRowW.records s) H.obs H.val M true := fun w => by
    have z := run w
    unfold RunX at z
    rw [← fullQ_eq] at z
    obtain ⟨⟨b, c⟩, e1, e2⟩ := Option.map_eq_some_iff.mp z
    simp only [Prod.mk.injEq] at e2
    obtain ⟨l1, l2, l3⟩ := e2
    rw [fullF_ok e1 hn (Nat.le_refl M) l1]
    rw [← seenQ_eq] at l2
    rw [ho] at l3
    exact congrArg some (Prod.ext l2 l3)
  exact holds_open (r := r) (q := q) (loose := loose) (XP := XL q []) (YP := H.says) (d := d) (kwd := kwd) left H.of H.keeps (fun s z => xl_of s (Bool.and_eq_true_iff.mp z).1) XL.keeps g1 g2 g3 (fun s z => recFacts_of (Bool.and_eq_true_iff.mp z).2) g4 g5 g6 g7 g8 g9
end
end QL

namespace L_k02
open PySem PySem.Spec PyProof.Rows L2 QL
/-! ### the text by places (printed by gen.py) -/
def top (i : Nat) : Stmt := PySem.Challenge.pw_lastrows_k02_vectors.main.body.getD i (.Pass ⟨0, 0, 0, 0⟩)
abbrev s_shared_part : Stmt := top 18
abbrev s_Ratio_init : Stmt := inClass (top 16) 0
abbrev s_Ratio_mul : Stmt := inClass (top 16) 5
abbrev s_Ratio_eq : Stmt := inClass (top 16) 8
abbrev s_common_bottom : Stmt := top 19
abbrev s_over_one_bottom : Stmt := top 20
abbrev s_weighted_sums : Stmt := top 24
abbrev s_integer_dot : Stmt := top 25
abbrev s_Vector_init : Stmt := inClass (top 23) 0
abbrev s_Vector_is_zero : Stmt := inClass (top 23) 1
abbrev s_Vector_len : Stmt := inClass (top 23) 2
abbrev s_Vector_getitem : Stmt := inClass (top 23) 3
abbrev s_Vector_add : Stmt := inClass (top 23) 5
abbrev s_Vector_sub : Stmt := inClass (top 23) 6
abbrev s_Vector_neg : Stmt := inClass (top 23) 7
abbrev s_Vector_mul : Stmt := inClass (top 23) 8
abbrev s_Vector_rmul : Stmt := inClass (top 23) 9
abbrev s_Vector_eq : Stmt := inClass (top 23) 10
abbrev s_Vector_dot : Stmt := inClass (top 23) 12
abbrev s_Vector_unit : Stmt := inClass (top 23) 13
abbrev s_Vector_zero : Stmt := inClass (top 23) 14
abbrev s_Vector_of : Stmt := inClass (top 23) 15
abbrev s_Poly_init : Stmt := inClass (top 30) 0
abbrev s_Poly_eq : Stmt := inClass (top 30) 13
abbrev s_law_cell : Stmt := top 34
abbrev s_law_mix : Stmt := top 35
abbrev s_law_draws : Stmt := top 36
abbrev s_law_small : Stmt := top 37
abbrev s_law_bottom : Stmt := top 38
abbrev s_law_wide : Stmt := top 39
abbrev s_law_is_integer : Stmt := top 40
abbrev s_law_gcd : Stmt := top 41
abbrev s_law_ratio : Stmt := top 42
abbrev s_law_low : Stmt := top 43
abbrev s_law_thing : Stmt := top 44
abbrev s_law_factors : Stmt := top 45
abbrev s_law_is_ratio : Stmt := top 46
abbrev s_law_is : Stmt := top 47
abbrev s_law_truth : Stmt := top 48
abbrev s_law_made : Stmt := top 49
abbrev s_law_alone : Stmt := top 50
abbrev s_law_asked : Stmt := top 51
abbrev s_law_pair : Stmt := top 52
abbrev s_law_refusal : Stmt := top 53
abbrev s_law_refusals : Stmt := top 54
abbrev s_law_made_others : Stmt := top 55
abbrev s_law : Stmt := top 56
abbrev s_xZeroBottom : Stmt := inClass (top 4) 0
abbrev s_xEmpty : Stmt := inClass (top 7) 0
abbrev s_xSizeMismatch : Stmt := inClass (top 9) 0
/-- where the classes, the defs, the properties stand -/
structure Ad where
  C_Ratio : Addr
  C_Vector : Addr
  C_Poly : Addr
  C_ZeroBottom : Addr
  C_Empty : Addr
  C_SizeMismatch : Addr
  C_LastrowsError : Addr
  C_BadText : Addr
  f_shared_part : Addr
  f_Ratio_init : Addr
  f_Ratio_mul : Addr
  f_Ratio_eq : Addr
  f_common_bottom : Addr
  f_over_one_bottom : Addr
  f_weighted_sums : Addr
  f_integer_dot : Addr
  f_Vector_init : Addr
  f_Vector_is_zero : Addr
  f_Vector_len : Addr
  f_Vector_getitem : Addr
  f_Vector_add : Addr
  f_Vector_sub : Addr
  f_Vector_neg : Addr
  f_Vector_mul : Addr
  f_Vector_rmul : Addr
  f_Vector_eq : Addr
  f_Vector_dot : Addr
  f_Vector_unit : Addr
  f_Vector_zero : Addr
  f_Vector_of : Addr
  f_Poly_init : Addr
  f_Poly_eq : Addr
  f_law_cell : Addr
  f_law_mix : Addr
  f_law_draws : Addr
  f_law_small : Addr
  f_law_bottom : Addr
  f_law_wide : Addr
  f_law_is_integer : Addr
  f_law_gcd : Addr
  f_law_ratio : Addr
  f_law_low : Addr
  f_law_thing : Addr
  f_law_factors : Addr
  f_law_is_ratio : Addr
  f_law_is : Addr
  f_law_truth : Addr
  f_law_made : Addr
  f_law_alone : Addr
  f_law_asked : Addr
  f_law_pair : Addr
  f_law_refusal : Addr
  f_law_refusals : Addr
  f_law_made_others : Addr
  f_law : Addr
  f_xZeroBottom : Addr
  f_xEmpty : Addr
  f_xSizeMismatch : Addr
structure Fd where
  d_shared_part : FuncData
  d_Ratio_init : FuncData
  d_Ratio_mul : FuncData
  d_Ratio_eq : FuncData
  d_common_bottom : FuncData
  d_over_one_bottom : FuncData
  d_weighted_sums : FuncData
  d_integer_dot : FuncData
  d_Vector_init : FuncData
  d_Vector_is_zero : FuncData
  d_Vector_len : FuncData
  d_Vector_getitem : FuncData
  d_Vector_add : FuncData
  d_Vector_sub : FuncData
  d_Vector_neg : FuncData
  d_Vector_mul : FuncData
  d_Vector_rmul : FuncData
  d_Vector_eq : FuncData
  d_Vector_dot : FuncData
  d_Vector_unit : FuncData
  d_Vector_zero : FuncData
  d_Vector_of : FuncData
  d_Poly_init : FuncData
  d_Poly_eq : FuncData
  d_law_cell : FuncData
  d_law_mix : FuncData
  d_law_draws : FuncData
  d_law_small : FuncData
  d_law_bottom : FuncData
  d_law_wide : FuncData
  d_law_is_integer : FuncData
  d_law_gcd : FuncData
  d_law_ratio : FuncData
  d_law_low : FuncData
  d_law_thing : FuncData
  d_law_factors : FuncData
  d_law_is_ratio : FuncData
  d_law_is : FuncData
  d_law_truth : FuncData
  d_law_made : FuncData
  d_law_alone : FuncData
  d_law_asked : FuncData
  d_law_pair : FuncData
  d_law_refusal : FuncData
  d_law_refusals : FuncData
  d_law_made_others : FuncData
  d_law : FuncData
  d_xZeroBottom : FuncData
  d_xEmpty : FuncData
  d_xSizeMismatch : FuncData
/-- what the written part says of them -/
structure Txt (K : PySem.W.Frag) (mg : Str → Option Value) (a : Ad) : Prop where
  mg_Ratio : mg "Ratio" = some (.ref a.C_Ratio)
  cl_Ratio : Cls K a.C_Ratio
  is_Ratio : IsC K a.C_Ratio
  kc_Ratio : KitC K a.C_Ratio
  nf_Ratio : NotF K a.C_Ratio
  sf_Ratio : PySem.W.selfFirst K a.C_Ratio = true
  ne_Ratio : PySem.W.findIn K (.ref a.C_Ratio) "__ne__" = some (some (.builtin "object.__ne__"))
  mk_Ratio : Mk K a.C_Ratio a.f_Ratio_init
  na_Ratio_top : NoAttr K a.C_Ratio "top"
  na_Ratio_bottom : NoAttr K a.C_Ratio "bottom"
  mg_Vector : mg "Vector" = some (.ref a.C_Vector)
  cl_Vector : Cls K a.C_Vector
  is_Vector : IsC K a.C_Vector
  kc_Vector : KitC K a.C_Vector
  nf_Vector : NotF K a.C_Vector
  sf_Vector : PySem.W.selfFirst K a.C_Vector = true
  ne_Vector : PySem.W.findIn K (.ref a.C_Vector) "__ne__" = some (some (.builtin "object.__ne__"))
  mk_Vector : Mk K a.C_Vector a.f_Vector_init
  na_Vector_tops : NoAttr K a.C_Vector "tops"
  na_Vector_bottom : NoAttr K a.C_Vector "bottom"
  mg_Poly : mg "Poly" = some (.ref a.C_Poly)
  cl_Poly : Cls K a.C_Poly
  is_Poly : IsC K a.C_Poly
  kc_Poly : KitC K a.C_Poly
  nf_Poly : NotF K a.C_Poly
  sf_Poly : PySem.W.selfFirst K a.C_Poly = true
  ne_Poly : PySem.W.findIn K (.ref a.C_Poly) "__ne__" = some (some (.builtin "object.__ne__"))
  mk_Poly : Mk K a.C_Poly a.f_Poly_init
  na_Poly_tops : NoAttr K a.C_Poly "tops"
  na_Poly_bottom : NoAttr K a.C_Poly "bottom"
  ne_Ratio_Vector : (a.C_Ratio = a.C_Vector) = False
  ne_Ratio_Poly : (a.C_Ratio = a.C_Poly) = False
  ne_Vector_Ratio : (a.C_Vector = a.C_Ratio) = False
  ne_Vector_Poly : (a.C_Vector = a.C_Poly) = False
  ne_Poly_Ratio : (a.C_Poly = a.C_Ratio) = False
  ne_Poly_Vector : (a.C_Poly = a.C_Vector) = False
  ko_Poly : KitO K (.ref a.C_Poly) [a.C_Ratio, a.C_Vector]
  ko_Ratio : KitO K (.ref a.C_Ratio) [a.C_Vector, a.C_Poly]
  ko_Vector : KitO K (.ref a.C_Vector) [a.C_Ratio, a.C_Poly]
  nfo_Poly : ∀ C ∈ [a.C_Ratio, a.C_Vector], IsC K C ∧ PySem.W.notFirst K a.C_Poly (.ref C) = true
  nfo_Vector : ∀ C ∈ [a.C_Ratio, a.C_Poly], IsC K C ∧ PySem.W.notFirst K a.C_Vector (.ref C) = true
  ko_bool : KitO K (.type "bool") [a.C_Ratio, a.C_Vector, a.C_Poly]
  ko_int : KitO K (.type "int") [a.C_Ratio, a.C_Vector, a.C_Poly]
  ko_tuple : KitO K (.type "tuple") [a.C_Ratio, a.C_Vector, a.C_Poly]
  op_Ratio_mul : OpC K a.C_Ratio .Mult a.f_Ratio_mul
  op_Vector_mul : OpC K a.C_Vector .Mult a.f_Vector_mul
  oi_Vector_mul : OpI K a.C_Vector .Mult
  si_Vector : PySem.W.subIn K (.ref a.C_Vector) (.type "int") = some false
  od_Ratio_Vector : OpD K a.C_Ratio a.C_Vector
  od_Vector_Ratio : OpD K a.C_Vector a.C_Ratio
  xm_Empty_Empty : PySem.W.exmOne K (.ref a.C_Empty) (.ref a.C_Empty) = some true
  xm_Empty_ZeroBottom : PySem.W.exmOne K (.ref a.C_Empty) (.ref a.C_ZeroBottom) = some false
  xm_ZeroBottom_Empty : PySem.W.exmOne K (.ref a.C_ZeroBottom) (.ref a.C_Empty) = some false
  xm_ZeroBottom_ZeroBottom : PySem.W.exmOne K (.ref a.C_ZeroBottom) (.ref a.C_ZeroBottom) = some true
  fin_Vector_getitem : PySem.W.fnIn K a.f_Vector_getitem = true
  mg_shared_part : mg "shared_part" = some (.ref a.f_shared_part)
  me_Ratio_mul : Meth K a.C_Ratio "__mul__" a.f_Ratio_mul
  fi_Ratio_mul : PySem.W.findIn K (.ref a.C_Ratio) "__mul__" = some (some (.ref a.f_Ratio_mul))
  isf_Ratio_mul : PySem.W.isFn K (.ref a.f_Ratio_mul) = true
  me_Ratio_eq : Meth K a.C_Ratio "__eq__" a.f_Ratio_eq
  fi_Ratio_eq : PySem.W.findIn K (.ref a.C_Ratio) "__eq__" = some (some (.ref a.f_Ratio_eq))
  isf_Ratio_eq : PySem.W.isFn K (.ref a.f_Ratio_eq) = true
  mg_common_bottom : mg "common_bottom" = some (.ref a.f_common_bottom)
  mg_over_one_bottom : mg "over_one_bottom" = some (.ref a.f_over_one_bottom)
  mg_weighted_sums : mg "weighted_sums" = some (.ref a.f_weighted_sums)
  mg_integer_dot : mg "integer_dot" = some (.ref a.f_integer_dot)
  pr_Vector_is_zero : ∃ p, PropOf K a.C_Vector "is_zero" p a.f_Vector_is_zero
  me_Vector_len : Meth K a.C_Vector "__len__" a.f_Vector_len
  fi_Vector_len : PySem.W.findIn K (.ref a.C_Vector) "__len__" = some (some (.ref a.f_Vector_len))
  isf_Vector_len : PySem.W.isFn K (.ref a.f_Vector_len) = true
  me_Vector_getitem : Meth K a.C_Vector "__getitem__" a.f_Vector_getitem
  fi_Vector_getitem : PySem.W.findIn K (.ref a.C_Vector) "__getitem__" = some (some (.ref a.f_Vector_getitem))
  isf_Vector_getitem : PySem.W.isFn K (.ref a.f_Vector_getitem) = true
  me_Vector_add : Meth K a.C_Vector "__add__" a.f_Vector_add
  fi_Vector_add : PySem.W.findIn K (.ref a.C_Vector) "__add__" = some (some (.ref a.f_Vector_add))
  isf_Vector_add : PySem.W.isFn K (.ref a.f_Vector_add) = true
  me_Vector_sub : Meth K a.C_Vector "__sub__" a.f_Vector_sub
  fi_Vector_sub : PySem.W.findIn K (.ref a.C_Vector) "__sub__" = some (some (.ref a.f_Vector_sub))
  isf_Vector_sub : PySem.W.isFn K (.ref a.f_Vector_sub) = true
  me_Vector_neg : Meth K a.C_Vector "__neg__" a.f_Vector_neg
  fi_Vector_neg : PySem.W.findIn K (.ref a.C_Vector) "__neg__" = some (some (.ref a.f_Vector_neg))
  isf_Vector_neg : PySem.W.isFn K (.ref a.f_Vector_neg) = true
  me_Vector_mul : Meth K a.C_Vector "__mul__" a.f_Vector_mul
  fi_Vector_mul : PySem.W.findIn K (.ref a.C_Vector) "__mul__" = some (some (.ref a.f_Vector_mul))
  isf_Vector_mul : PySem.W.isFn K (.ref a.f_Vector_mul) = true
  me_Vector_rmul : Meth K a.C_Vector "__rmul__" a.f_Vector_rmul
  fi_Vector_rmul : PySem.W.findIn K (.ref a.C_Vector) "__rmul__" = some (some (.ref a.f_Vector_rmul))
  isf_Vector_rmul : PySem.W.isFn K (.ref a.f_Vector_rmul) = true
  me_Vector_eq : Meth K a.C_Vector "__eq__" a.f_Vector_eq
  fi_Vector_eq : PySem.W.findIn K (.ref a.C_Vector) "__eq__" = some (some (.ref a.f_Vector_eq))
  isf_Vector_eq : PySem.W.isFn K (.ref a.f_Vector_eq) = true
  me_Vector_dot : Meth K a.C_Vector "dot" a.f_Vector_dot
  fi_Vector_dot : PySem.W.findIn K (.ref a.C_Vector) "dot" = some (some (.ref a.f_Vector_dot))
  isf_Vector_dot : PySem.W.isFn K (.ref a.f_Vector_dot) = true
  st_Vector_unit : StatC K a.C_Vector "unit" a.f_Vector_unit
  st_Vector_zero : StatC K a.C_Vector "zero" a.f_Vector_zero
  st_Vector_of : StatC K a.C_Vector "of" a.f_Vector_of
  me_Poly_eq : Meth K a.C_Poly "__eq__" a.f_Poly_eq
  fi_Poly_eq : PySem.W.findIn K (.ref a.C_Poly) "__eq__" = some (some (.ref a.f_Poly_eq))
  isf_Poly_eq : PySem.W.isFn K (.ref a.f_Poly_eq) = true
  mg_law_cell : mg "_law_cell" = some (.ref a.f_law_cell)
  mg_law_mix : mg "_law_mix" = some (.ref a.f_law_mix)
  mg_law_draws : mg "_law_draws" = some (.ref a.f_law_draws)
  mg_law_small : mg "_law_small" = some (.ref a.f_law_small)
  mg_law_bottom : mg "_law_bottom" = some (.ref a.f_law_bottom)
  mg_law_wide : mg "_law_wide" = some (.ref a.f_law_wide)
  mg_law_is_integer : mg "_law_is_integer" = some (.ref a.f_law_is_integer)
  mg_law_gcd : mg "_law_gcd" = some (.ref a.f_law_gcd)
  mg_law_ratio : mg "_law_ratio" = some (.ref a.f_law_ratio)
  mg_law_low : mg "_law_low" = some (.ref a.f_law_low)
  mg_law_thing : mg "_law_thing" = some (.ref a.f_law_thing)
  mg_law_factors : mg "_law_factors" = some (.ref a.f_law_factors)
  mg_law_is_ratio : mg "_law_is_ratio" = some (.ref a.f_law_is_ratio)
  mg_law_is : mg "_law_is" = some (.ref a.f_law_is)
  mg_law_truth : mg "_law_truth" = some (.ref a.f_law_truth)
  mg_law_made : mg "_law_made" = some (.ref a.f_law_made)
  mg_law_alone : mg "_law_alone" = some (.ref a.f_law_alone)
  mg_law_asked : mg "_law_asked" = some (.ref a.f_law_asked)
  mg_law_pair : mg "_law_pair" = some (.ref a.f_law_pair)
  mg_law_refusal : mg "_law_refusal" = some (.ref a.f_law_refusal)
  mg_law_refusals : mg "_law_refusals" = some (.ref a.f_law_refusals)
  mg_law_made_others : mg "_law_made_others" = some (.ref a.f_law_made_others)
  mg_law : mg "law" = some (.ref a.f_law)
  mg_ZeroBottom : mg "ZeroBottom" = some (.ref a.C_ZeroBottom)
  ox_ZeroBottom : OexC K a.C_ZeroBottom
  xi_ZeroBottom : PySem.W.findIn K (.ref a.C_ZeroBottom) "__init__" = some (some (.ref a.f_xZeroBottom))
  xt_ZeroBottom : PySem.W.typeIn K (.ref a.f_xZeroBottom) = some (.type "function")
  xf_ZeroBottom : XfC K a.C_ZeroBottom
  xc_ZeroBottom : ExcC K a.C_ZeroBottom
  xe_ZeroBottom : PySem.W.exmOne K (.ref a.C_ZeroBottom) (.ref a.C_ZeroBottom) = some true
  na_ZeroBottom_word : PySem.W.findIn K (.ref a.C_ZeroBottom) "word" = some none
  xk_ZeroBottom_LastrowsError : PySem.W.kitOne K (.ref a.C_ZeroBottom) (.ref a.C_LastrowsError) = some true
  xk_ZeroBottom_ValueError : PySem.W.kitOne K (.ref a.C_ZeroBottom) (.type "ValueError") = some true
  xk_ZeroBottom_Empty : PySem.W.kitOne K (.ref a.C_ZeroBottom) (.ref a.C_Empty) = some false
  xk_ZeroBottom_BadText : PySem.W.kitOne K (.ref a.C_ZeroBottom) (.ref a.C_BadText) = some false
  mg_Empty : mg "Empty" = some (.ref a.C_Empty)
  ox_Empty : OexC K a.C_Empty
  xi_Empty : PySem.W.findIn K (.ref a.C_Empty) "__init__" = some (some (.ref a.f_xEmpty))
  xt_Empty : PySem.W.typeIn K (.ref a.f_xEmpty) = some (.type "function")
  xf_Empty : XfC K a.C_Empty
  xc_Empty : ExcC K a.C_Empty
  xe_Empty : PySem.W.exmOne K (.ref a.C_Empty) (.ref a.C_Empty) = some true
  na_Empty_word : PySem.W.findIn K (.ref a.C_Empty) "word" = some none
  xk_Empty_LastrowsError : PySem.W.kitOne K (.ref a.C_Empty) (.ref a.C_LastrowsError) = some true
  xk_Empty_ValueError : PySem.W.kitOne K (.ref a.C_Empty) (.type "ValueError") = some true
  xk_Empty_ZeroBottom : PySem.W.kitOne K (.ref a.C_Empty) (.ref a.C_ZeroBottom) = some false
  xk_Empty_BadText : PySem.W.kitOne K (.ref a.C_Empty) (.ref a.C_BadText) = some false
  mg_SizeMismatch : mg "SizeMismatch" = some (.ref a.C_SizeMismatch)
  ox_SizeMismatch : OexC K a.C_SizeMismatch
  xi_SizeMismatch : PySem.W.findIn K (.ref a.C_SizeMismatch) "__init__" = some (some (.ref a.f_xSizeMismatch))
  xt_SizeMismatch : PySem.W.typeIn K (.ref a.f_xSizeMismatch) = some (.type "function")
  xf_SizeMismatch : XfC K a.C_SizeMismatch
  xc_SizeMismatch : ExcC K a.C_SizeMismatch
  xe_SizeMismatch : PySem.W.exmOne K (.ref a.C_SizeMismatch) (.ref a.C_SizeMismatch) = some true
  na_SizeMismatch_left : PySem.W.findIn K (.ref a.C_SizeMismatch) "left" = some none
  na_SizeMismatch_right : PySem.W.findIn K (.ref a.C_SizeMismatch) "right" = some none
  na_SizeMismatch_word : PySem.W.findIn K (.ref a.C_SizeMismatch) "word" = some none
  xk_SizeMismatch_LastrowsError : PySem.W.kitOne K (.ref a.C_SizeMismatch) (.ref a.C_LastrowsError) = some true
  xk_SizeMismatch_ValueError : PySem.W.kitOne K (.ref a.C_SizeMismatch) (.type "ValueError") = some true
  xk_SizeMismatch_Empty : PySem.W.kitOne K (.ref a.C_SizeMismatch) (.ref a.C_Empty) = some false
  ne_Empty_ZeroBottom : (a.C_Empty = a.C_ZeroBottom) = False
  ne_ZeroBottom_Empty : (a.C_ZeroBottom = a.C_Empty) = False
  mg_LastrowsError : mg "LastrowsError" = some (.ref a.C_LastrowsError)
  mg_BadText : mg "BadText" = some (.ref a.C_BadText)
  b_NotImplemented : mg "NotImplemented" = none
  b_ValueError : mg "ValueError" = none
  b_abs : mg "abs" = none
  b_all : mg "all" = none
  b_bool : mg "bool" = none
  b_int : mg "int" = none
  b_isinstance : mg "isinstance" = none
  b_len : mg "len" = none
  b_list : mg "list" = none
  b_range : mg "range" = none
  b_sum : mg "sum" = none
  b_tuple : mg "tuple" = none
  b_zip : mg "zip" = none
  m_gcd : mg "gcd" = some (.builtin "math.gcd")
  m_lcm : mg "lcm" = some (.builtin "math.lcm")
/-- the defs as they stand, and how their arguments bind -/
structure Fs (K : PySem.W.Frag) (a : Ad) (d : Fd) : Prop where
  F_shared_part : FunA K "shared_part" "shared_part" s_shared_part [] a.f_shared_part d.d_shared_part
  B_shared_part : Binds K d.d_shared_part ["tops", "bottom"] []
  F_Ratio_init : FunA K "__init__" "Ratio.__init__" s_Ratio_init [V.int 1] a.f_Ratio_init d.d_Ratio_init
  B_Ratio_init : Binds K d.d_Ratio_init ["self", "top", "bottom"] []
  B_Ratio_init_1 : ∃ ds, Vals ([V.int 1].drop 0) ds ∧ Binds K d.d_Ratio_init ["self", "top", "bottom"] ds
  F_Ratio_mul : FunA K "__mul__" "Ratio.__mul__" s_Ratio_mul [] a.f_Ratio_mul d.d_Ratio_mul
  B_Ratio_mul : Binds K d.d_Ratio_mul ["self", "other"] []
  F_Ratio_eq : FunA K "__eq__" "Ratio.__eq__" s_Ratio_eq [] a.f_Ratio_eq d.d_Ratio_eq
  B_Ratio_eq : Binds K d.d_Ratio_eq ["self", "other"] []
  F_common_bottom : FunA K "common_bottom" "common_bottom" s_common_bottom [] a.f_common_bottom d.d_common_bottom
  B_common_bottom : Binds K d.d_common_bottom ["first", "second"] []
  F_over_one_bottom : FunA K "over_one_bottom" "over_one_bottom" s_over_one_bottom [] a.f_over_one_bottom d.d_over_one_bottom
  B_over_one_bottom : Binds K d.d_over_one_bottom ["ratios"] []
  F_weighted_sums : FunA K "weighted_sums" "weighted_sums" s_weighted_sums [] a.f_weighted_sums d.d_weighted_sums
  B_weighted_sums : Binds K d.d_weighted_sums ["first", "left", "second", "right"] []
  F_integer_dot : FunA K "integer_dot" "integer_dot" s_integer_dot [] a.f_integer_dot d.d_integer_dot
  B_integer_dot : Binds K d.d_integer_dot ["left", "right"] []
  F_Vector_init : FunA K "__init__" "Vector.__init__" s_Vector_init [V.int 1] a.f_Vector_init d.d_Vector_init
  B_Vector_init : Binds K d.d_Vector_init ["self", "tops", "bottom"] []
  B_Vector_init_1 : ∃ ds, Vals ([V.int 1].drop 0) ds ∧ Binds K d.d_Vector_init ["self", "tops", "bottom"] ds
  F_Vector_is_zero : FunA K "is_zero" "Vector.is_zero" s_Vector_is_zero [] a.f_Vector_is_zero d.d_Vector_is_zero
  B_Vector_is_zero : Binds K d.d_Vector_is_zero ["self"] []
  F_Vector_len : FunA K "__len__" "Vector.__len__" s_Vector_len [] a.f_Vector_len d.d_Vector_len
  B_Vector_len : Binds K d.d_Vector_len ["self"] []
  F_Vector_getitem : FunA K "__getitem__" "Vector.__getitem__" s_Vector_getitem [] a.f_Vector_getitem d.d_Vector_getitem
  B_Vector_getitem : Binds K d.d_Vector_getitem ["self", "at"] []
  F_Vector_add : FunA K "__add__" "Vector.__add__" s_Vector_add [] a.f_Vector_add d.d_Vector_add
  B_Vector_add : Binds K d.d_Vector_add ["self", "other"] []
  F_Vector_sub : FunA K "__sub__" "Vector.__sub__" s_Vector_sub [] a.f_Vector_sub d.d_Vector_sub
  B_Vector_sub : Binds K d.d_Vector_sub ["self", "other"] []
  F_Vector_neg : FunA K "__neg__" "Vector.__neg__" s_Vector_neg [] a.f_Vector_neg d.d_Vector_neg
  B_Vector_neg : Binds K d.d_Vector_neg ["self"] []
  F_Vector_mul : FunA K "__mul__" "Vector.__mul__" s_Vector_mul [] a.f_Vector_mul d.d_Vector_mul
  B_Vector_mul : Binds K d.d_Vector_mul ["self", "factor"] []
  F_Vector_rmul : FunA K "__rmul__" "Vector.__rmul__" s_Vector_rmul [] a.f_Vector_rmul d.d_Vector_rmul
  B_Vector_rmul : Binds K d.d_Vector_rmul ["self", "factor"] []
  F_Vector_eq : FunA K "__eq__" "Vector.__eq__" s_Vector_eq [] a.f_Vector_eq d.d_Vector_eq
  B_Vector_eq : Binds K d.d_Vector_eq ["self", "other"] []
  F_Vector_dot : FunA K "dot" "Vector.dot" s_Vector_dot [] a.f_Vector_dot d.d_Vector_dot
  B_Vector_dot : Binds K d.d_Vector_dot ["self", "other"] []
  F_Vector_unit : FunA K "unit" "Vector.unit" s_Vector_unit [] a.f_Vector_unit d.d_Vector_unit
  B_Vector_unit : Binds K d.d_Vector_unit ["size", "place"] []
  F_Vector_zero : FunA K "zero" "Vector.zero" s_Vector_zero [] a.f_Vector_zero d.d_Vector_zero
  B_Vector_zero : Binds K d.d_Vector_zero ["size"] []
  F_Vector_of : FunA K "of" "Vector.of" s_Vector_of [] a.f_Vector_of d.d_Vector_of
  B_Vector_of : Binds K d.d_Vector_of ["ratios"] []
  F_Poly_init : FunA K "__init__" "Poly.__init__" s_Poly_init [V.int 1] a.f_Poly_init d.d_Poly_init
  B_Poly_init : Binds K d.d_Poly_init ["self", "tops", "bottom"] []
  B_Poly_init_1 : ∃ ds, Vals ([V.int 1].drop 0) ds ∧ Binds K d.d_Poly_init ["self", "tops", "bottom"] ds
  F_Poly_eq : FunA K "__eq__" "Poly.__eq__" s_Poly_eq [] a.f_Poly_eq d.d_Poly_eq
  B_Poly_eq : Binds K d.d_Poly_eq ["self", "other"] []
  F_law_cell : FunA K "_law_cell" "_law_cell" s_law_cell [] a.f_law_cell d.d_law_cell
  B_law_cell : Binds K d.d_law_cell ["script", "k"] []
  F_law_mix : FunA K "_law_mix" "_law_mix" s_law_mix [] a.f_law_mix d.d_law_mix
  B_law_mix : Binds K d.d_law_mix ["cell", "k", "at"] []
  F_law_draws : FunA K "_law_draws" "_law_draws" s_law_draws [] a.f_law_draws d.d_law_draws
  B_law_draws : Binds K d.d_law_draws ["script", "k", "many"] []
  F_law_small : FunA K "_law_small" "_law_small" s_law_small [] a.f_law_small d.d_law_small
  B_law_small : Binds K d.d_law_small ["d"] []
  F_law_bottom : FunA K "_law_bottom" "_law_bottom" s_law_bottom [] a.f_law_bottom d.d_law_bottom
  B_law_bottom : Binds K d.d_law_bottom ["d"] []
  F_law_wide : FunA K "_law_wide" "_law_wide" s_law_wide [] a.f_law_wide d.d_law_wide
  B_law_wide : Binds K d.d_law_wide ["script", "k"] []
  F_law_is_integer : FunA K "_law_is_integer" "_law_is_integer" s_law_is_integer [] a.f_law_is_integer d.d_law_is_integer
  B_law_is_integer : Binds K d.d_law_is_integer ["x"] []
  F_law_gcd : FunA K "_law_gcd" "_law_gcd" s_law_gcd [] a.f_law_gcd d.d_law_gcd
  B_law_gcd : Binds K d.d_law_gcd ["a", "b"] []
  F_law_ratio : FunA K "_law_ratio" "_law_ratio" s_law_ratio [] a.f_law_ratio d.d_law_ratio
  B_law_ratio : Binds K d.d_law_ratio ["top", "bottom"] []
  F_law_low : FunA K "_law_low" "_law_low" s_law_low [] a.f_law_low d.d_law_low
  B_law_low : Binds K d.d_law_low ["tops", "bottom"] []
  F_law_thing : FunA K "_law_thing" "_law_thing" s_law_thing [] a.f_law_thing d.d_law_thing
  B_law_thing : Binds K d.d_law_thing ["script", "which", "size"] []
  F_law_factors : FunA K "_law_factors" "_law_factors" s_law_factors [] a.f_law_factors d.d_law_factors
  B_law_factors : Binds K d.d_law_factors ["script", "draws"] []
  F_law_is_ratio : FunA K "_law_is_ratio" "_law_is_ratio" s_law_is_ratio [] a.f_law_is_ratio d.d_law_is_ratio
  B_law_is_ratio : Binds K d.d_law_is_ratio ["x", "pair"] []
  F_law_is : FunA K "_law_is" "_law_is" s_law_is [] a.f_law_is d.d_law_is
  B_law_is : Binds K d.d_law_is ["v", "low"] []
  F_law_truth : FunA K "_law_truth" "_law_truth" s_law_truth [] a.f_law_truth d.d_law_truth
  B_law_truth : Binds K d.d_law_truth ["x", "due"] []
  F_law_made : FunA K "_law_made" "_law_made" s_law_made [] a.f_law_made d.d_law_made
  B_law_made : Binds K d.d_law_made ["thing"] []
  F_law_alone : FunA K "_law_alone" "_law_alone" s_law_alone [] a.f_law_alone d.d_law_alone
  B_law_alone : Binds K d.d_law_alone ["v", "low", "number", "pair"] []
  F_law_asked : FunA K "_law_asked" "_law_asked" s_law_asked [] a.f_law_asked d.d_law_asked
  B_law_asked : Binds K d.d_law_asked ["v", "w", "road"] []
  F_law_pair : FunA K "_law_pair" "_law_pair" s_law_pair [] a.f_law_pair d.d_law_pair
  B_law_pair : Binds K d.d_law_pair ["v", "w", "a", "b"] []
  F_law_refusal : FunA K "_law_refusal" "_law_refusal" s_law_refusal [] a.f_law_refusal d.d_law_refusal
  B_law_refusal : Binds K d.d_law_refusal ["tops", "bottom", "road"] []
  F_law_refusals : FunA K "_law_refusals" "_law_refusals" s_law_refusals [] a.f_law_refusals d.d_law_refusals
  B_law_refusals : Binds K d.d_law_refusals ["thing"] []
  F_law_made_others : FunA K "_law_made_others" "_law_made_others" s_law_made_others [] a.f_law_made_others d.d_law_made_others
  B_law_made_others : Binds K d.d_law_made_others ["thing", "low", "place"] []
  F_law : FunA K "law" "law" s_law [] a.f_law d.d_law
  B_law : Binds K d.d_law ["script"] []
  XF_ZeroBottom : FunA K "__init__" "ZeroBottom.__init__" s_xZeroBottom [] a.f_xZeroBottom d.d_xZeroBottom
  XB_ZeroBottom : Binds K d.d_xZeroBottom ["self"] []
  XF_Empty : FunA K "__init__" "Empty.__init__" s_xEmpty [] a.f_xEmpty d.d_xEmpty
  XB_Empty : Binds K d.d_xEmpty ["self"] []
  XF_SizeMismatch : FunA K "__init__" "SizeMismatch.__init__" s_xSizeMismatch [] a.f_xSizeMismatch d.d_xSizeMismatch
  XB_SizeMismatch : Binds K d.d_xSizeMismatch ["self", "left", "right"] []
theorem sc_shared_part : FnScope ["tops", "bottom", "part", "top"] ["tops", "bottom"] (defScope s_shared_part) := ⟨rfl, rfl, rfl, by decide +kernel, rfl, by decide +kernel, by decide +kernel⟩
theorem sc_Ratio_init : FnScope ["self", "top", "bottom", "part"] ["self", "top", "bottom"] (defScope s_Ratio_init) := ⟨rfl, rfl, rfl, by decide +kernel, rfl, by decide +kernel, by decide +kernel⟩
theorem sc_Ratio_mul : FnScope ["self", "other"] ["self", "other"] (defScope s_Ratio_mul) := ⟨rfl, rfl, rfl, by decide +kernel, rfl, by decide +kernel, by decide +kernel⟩
theorem sc_Ratio_eq : FnScope ["self", "other"] ["self", "other"] (defScope s_Ratio_eq) := ⟨rfl, rfl, rfl, by decide +kernel, rfl, by decide +kernel, by decide +kernel⟩
theorem sc_common_bottom : FnScope ["first", "second", "bottom"] ["first", "second"] (defScope s_common_bottom) := ⟨rfl, rfl, rfl, by decide +kernel, rfl, by decide +kernel, by decide +kernel⟩
theorem sc_over_one_bottom : FnScope ["ratios", "bottom", "ratio"] ["ratios"] (defScope s_over_one_bottom) := ⟨rfl, rfl, rfl, by decide +kernel, rfl, by decide +kernel, by decide +kernel⟩
theorem sc_weighted_sums : FnScope ["first", "left", "second", "right", "one", "two"] ["first", "left", "second", "right"] (defScope s_weighted_sums) := ⟨rfl, rfl, rfl, by decide +kernel, rfl, by decide +kernel, by decide +kernel⟩
theorem sc_integer_dot : FnScope ["left", "right", "one", "two"] ["left", "right"] (defScope s_integer_dot) := ⟨rfl, rfl, rfl, by decide +kernel, rfl, by decide +kernel, by decide +kernel⟩
theorem sc_Vector_init : FnScope ["self", "tops", "bottom", "part", "top"] ["self", "tops", "bottom"] (defScope s_Vector_init) := ⟨rfl, rfl, rfl, by decide +kernel, rfl, by decide +kernel, by decide +kernel⟩
theorem sc_Vector_is_zero : FnScope ["self", "top"] ["self"] (defScope s_Vector_is_zero) := ⟨rfl, rfl, rfl, by decide +kernel, rfl, by decide +kernel, by decide +kernel⟩
theorem sc_Vector_len : FnScope ["self"] ["self"] (defScope s_Vector_len) := ⟨rfl, rfl, rfl, by decide +kernel, rfl, by decide +kernel, by decide +kernel⟩
theorem sc_Vector_getitem : FnScope ["self", "at"] ["self", "at"] (defScope s_Vector_getitem) := ⟨rfl, rfl, rfl, by decide +kernel, rfl, by decide +kernel, by decide +kernel⟩
theorem sc_Vector_add : FnScope ["self", "other", "bottom", "left", "right"] ["self", "other"] (defScope s_Vector_add) := ⟨rfl, rfl, rfl, by decide +kernel, rfl, by decide +kernel, by decide +kernel⟩
theorem sc_Vector_sub : FnScope ["self", "other", "bottom", "left", "right"] ["self", "other"] (defScope s_Vector_sub) := ⟨rfl, rfl, rfl, by decide +kernel, rfl, by decide +kernel, by decide +kernel⟩
theorem sc_Vector_neg : FnScope ["self", "top"] ["self"] (defScope s_Vector_neg) := ⟨rfl, rfl, rfl, by decide +kernel, rfl, by decide +kernel, by decide +kernel⟩
theorem sc_Vector_mul : FnScope ["self", "factor", "top"] ["self", "factor"] (defScope s_Vector_mul) := ⟨rfl, rfl, rfl, by decide +kernel, rfl, by decide +kernel, by decide +kernel⟩
theorem sc_Vector_rmul : FnScope ["self", "factor"] ["self", "factor"] (defScope s_Vector_rmul) := ⟨rfl, rfl, rfl, by decide +kernel, rfl, by decide +kernel, by decide +kernel⟩
theorem sc_Vector_eq : FnScope ["self", "other"] ["self", "other"] (defScope s_Vector_eq) := ⟨rfl, rfl, rfl, by decide +kernel, rfl, by decide +kernel, by decide +kernel⟩
theorem sc_Vector_dot : FnScope ["self", "other"] ["self", "other"] (defScope s_Vector_dot) := ⟨rfl, rfl, rfl, by decide +kernel, rfl, by decide +kernel, by decide +kernel⟩
theorem sc_Vector_unit : FnScope ["size", "place", "index"] ["size", "place"] (defScope s_Vector_unit) := ⟨rfl, rfl, rfl, by decide +kernel, rfl, by decide +kernel, by decide +kernel⟩
theorem sc_Vector_zero : FnScope ["size", "_"] ["size"] (defScope s_Vector_zero) := ⟨rfl, rfl, rfl, by decide +kernel, rfl, by decide +kernel, by decide +kernel⟩
theorem sc_Vector_of : FnScope ["ratios", "tops", "bottom"] ["ratios"] (defScope s_Vector_of) := ⟨rfl, rfl, rfl, by decide +kernel, rfl, by decide +kernel, by decide +kernel⟩
theorem sc_Poly_init : FnScope ["self", "tops", "bottom", "count", "part", "top"] ["self", "tops", "bottom"] (defScope s_Poly_init) := ⟨rfl, rfl, rfl, by decide +kernel, rfl, by decide +kernel, by decide +kernel⟩
theorem sc_Poly_eq : FnScope ["self", "other"] ["self", "other"] (defScope s_Poly_eq) := ⟨rfl, rfl, rfl, by decide +kernel, rfl, by decide +kernel, by decide +kernel⟩
theorem sc_law_cell : FnScope ["script", "k", "total", "cell"] ["script", "k"] (defScope s_law_cell) := ⟨rfl, rfl, rfl, by decide +kernel, rfl, by decide +kernel, by decide +kernel⟩
theorem sc_law_mix : FnScope ["cell", "k", "at", "x"] ["cell", "k", "at"] (defScope s_law_mix) := ⟨rfl, rfl, rfl, by decide +kernel, rfl, by decide +kernel, by decide +kernel⟩
theorem sc_law_draws : FnScope ["script", "k", "many", "cell", "digits", "out", "at"] ["script", "k", "many"] (defScope s_law_draws) := ⟨rfl, rfl, rfl, by decide +kernel, rfl, by decide +kernel, by decide +kernel⟩
theorem sc_law_small : FnScope ["d"] ["d"] (defScope s_law_small) := ⟨rfl, rfl, rfl, by decide +kernel, rfl, by decide +kernel, by decide +kernel⟩
theorem sc_law_bottom : FnScope ["d"] ["d"] (defScope s_law_bottom) := ⟨rfl, rfl, rfl, by decide +kernel, rfl, by decide +kernel, by decide +kernel⟩
theorem sc_law_wide : FnScope ["script", "k", "cell", "number"] ["script", "k"] (defScope s_law_wide) := ⟨rfl, rfl, rfl, by decide +kernel, rfl, by decide +kernel, by decide +kernel⟩
theorem sc_law_is_integer : FnScope ["x"] ["x"] (defScope s_law_is_integer) := ⟨rfl, rfl, rfl, by decide +kernel, rfl, by decide +kernel, by decide +kernel⟩
theorem sc_law_gcd : FnScope ["a", "b", "turns"] ["a", "b"] (defScope s_law_gcd) := ⟨rfl, rfl, rfl, by decide +kernel, rfl, by decide +kernel, by decide +kernel⟩
theorem sc_law_ratio : FnScope ["top", "bottom", "part"] ["top", "bottom"] (defScope s_law_ratio) := ⟨rfl, rfl, rfl, by decide +kernel, rfl, by decide +kernel, by decide +kernel⟩
theorem sc_law_low : FnScope ["tops", "bottom", "part", "top"] ["tops", "bottom"] (defScope s_law_low) := ⟨rfl, rfl, rfl, by decide +kernel, rfl, by decide +kernel, by decide +kernel⟩
theorem sc_law_thing : FnScope ["script", "which", "size", "draws", "kind", "tops", "d", "bottom", "top", "at", "factor"] ["script", "which", "size"] (defScope s_law_thing) := ⟨rfl, rfl, rfl, by decide +kernel, rfl, by decide +kernel, by decide +kernel⟩
theorem sc_law_factors : FnScope ["script", "draws", "number", "pair"] ["script", "draws"] (defScope s_law_factors) := ⟨rfl, rfl, rfl, by decide +kernel, rfl, by decide +kernel, by decide +kernel⟩
theorem sc_law_is_ratio : FnScope ["x", "pair"] ["x", "pair"] (defScope s_law_is_ratio) := ⟨rfl, rfl, rfl, by decide +kernel, rfl, by decide +kernel, by decide +kernel⟩
theorem sc_law_is : FnScope ["v", "low", "k"] ["v", "low"] (defScope s_law_is) := ⟨rfl, rfl, rfl, by decide +kernel, rfl, by decide +kernel, by decide +kernel⟩
theorem sc_law_truth : FnScope ["x", "due"] ["x", "due"] (defScope s_law_truth) := ⟨rfl, rfl, rfl, by decide +kernel, rfl, by decide +kernel, by decide +kernel⟩
theorem sc_law_made : FnScope ["thing", "items", "v"] ["thing"] (defScope s_law_made) := ⟨rfl, rfl, rfl, by decide +kernel, rfl, by decide +kernel, by decide +kernel⟩
theorem sc_law_alone : FnScope ["v", "low", "number", "pair", "top", "k", "due", "r", "other", "p", "twin"] ["v", "low", "number", "pair"] (defScope s_law_alone) := ⟨rfl, rfl, rfl, by decide +kernel, rfl, by decide +kernel, by decide +kernel⟩
theorem sc_law_asked : FnScope ["v", "w", "road", "told", "refused", "e"] ["v", "w", "road"] (defScope s_law_asked) := ⟨rfl, rfl, rfl, by decide +kernel, rfl, by decide +kernel, by decide +kernel⟩
theorem sc_law_pair : FnScope ["v", "w", "a", "b", "road", "told", "refused", "due", "k", "tops", "same"] ["v", "w", "a", "b"] (defScope s_law_pair) := ⟨rfl, rfl, rfl, by decide +kernel, rfl, by decide +kernel, by decide +kernel⟩
theorem sc_law_refusal : FnScope ["tops", "bottom", "road", "refused", "e"] ["tops", "bottom", "road"] (defScope s_law_refusal) := ⟨rfl, rfl, rfl, by decide +kernel, rfl, by decide +kernel, by decide +kernel⟩
theorem sc_law_refusals : FnScope ["thing", "empty", "bottom"] ["thing"] (defScope s_law_refusals) := ⟨rfl, rfl, rfl, by decide +kernel, rfl, by decide +kernel, by decide +kernel⟩
theorem sc_law_made_others : FnScope ["thing", "low", "place", "size", "k", "tops", "ratios", "kept", "x"] ["thing", "low", "place"] (defScope s_law_made_others) := ⟨rfl, rfl, rfl, by decide +kernel, rfl, by decide +kernel, by decide +kernel⟩
theorem sc_law : FnScope ["script", "draws", "size", "more", "first", "second", "number", "pair", "a", "b", "v", "w", "lap"] ["script"] (defScope s_law) := ⟨rfl, rfl, rfl, by decide +kernel, rfl, by decide +kernel, by decide +kernel⟩
theorem sc_xZeroBottom : FnScope ["self"] ["self"] (defScope s_xZeroBottom) := ⟨rfl, rfl, rfl, by decide +kernel, rfl, by decide +kernel, by decide +kernel⟩
theorem sc_xEmpty : FnScope ["self"] ["self"] (defScope s_xEmpty) := ⟨rfl, rfl, rfl, by decide +kernel, rfl, by decide +kernel, by decide +kernel⟩
theorem sc_xSizeMismatch : FnScope ["self", "left", "right"] ["self", "left", "right"] (defScope s_xSizeMismatch) := ⟨rfl, rfl, rfl, by decide +kernel, rfl, by decide +kernel, by decide +kernel⟩
end L_k02

namespace L_k02
open PySem PySem.Spec PyProof.Rows L2 QL
def xv_ZeroBottom : List V → List (Str × V) := fun ws => [("word", .str "bottom")]
def xp_ZeroBottom : List PV → List (Str × PV) := fun xs => [("word", .str "bottom")]
def xv_Empty : List V → List (Str × V) := fun ws => [("word", .str "empty")]
def xp_Empty : List PV → List (Str × PV) := fun xs => [("word", .str "empty")]
def xv_SizeMismatch : List V → List (Str × V) := fun ws => [("word", .str "sizes"), ("right", ws.getD 1 .non), ("left", ws.getD 0 .non)]
def xp_SizeMismatch : List PV → List (Str × PV) := fun xs => [("word", .str "sizes"), ("right", xs.getD 1 .non), ("left", xs.getD 0 .non)]
end L_k02
-- simps: P_Vector_rmul
namespace L_k02
open PySem PySem.Spec PyProof.Rows L2 QL
def zb (a : Ad) : PX := ⟨a.C_ZeroBottom, [("word", .str "bottom")]⟩
def ez (a : Ad) : PX := ⟨a.C_Empty, [("word", .str "empty")]⟩
def sm (a : Ad) (m n : Nat) : PX := ⟨a.C_SizeMismatch, xp_SizeMismatch [.int m, .int n]⟩
/-! ### ratios -/
def P_shared_part (a : Ad) : PSpec := fun xs y Q => ∃ (ts : List Int) (b : Int) (s : PV), xs = [s, .int b] ∧ SeqI s ts ∧ Q (.int (shared ts b))
def I_Ratio_init (a : Ad) : ISpec := fun xs y Q => ∃ t b : Int, xs = [.int t, .int b] ∧ (b = 0 → y (zb a)) ∧ (b ≠ 0 → Sz 8000 b ∧ Q [("top", .int (nT t b)), ("bottom", .int (nB t b))])
def P_Ratio_mul (a : Ad) : PSpec := fun xs y Q => ∃ t b u c : Int, xs = [rat a.C_Ratio t b, rat a.C_Ratio u c] ∧ (Sz 4000 t ∧ Sz 4000 b ∧ Sz 4000 u ∧ Sz 4000 c) ∧ (b ≠ 0 ∧ c ≠ 0) ∧ Q (rat a.C_Ratio (nT (t * u) (b * c)) (nB (t * u) (b * c)))
def P_Ratio_eq (a : Ad) : PSpec := fun xs y Q => ∃ (t b : Int) (z : PV), xs = [rat a.C_Ratio t b, z] ∧ ((∃ u c : Int, z = rat a.C_Ratio u c ∧ Q (.bl (t == u && b == c))) ∨ (isiC a.C_Ratio [a.C_Vector, a.C_Poly] z = some false ∧ Q (.bl false)))
def P_common_bottom (a : Ad) : PSpec := fun xs y Q => ∃ f g : Int, xs = [.int f, .int g] ∧ (f ≠ 0 ∧ g ≠ 0 ∧ Sz 6000 f ∧ Sz 6000 g) ∧ Q (.tup [.int (lcmZ f g), .int ((lcmZ f g).fdiv f), .int ((lcmZ f g).fdiv g)])
def P_over_one_bottom (a : Ad) : PSpec := fun xs y Q => ∃ (rs : List (Int × Int)) (s : PV), xs = [s] ∧ SeqR a.C_Ratio s rs ∧ GoodR rs ∧ Q (.tup [lstI (topsOf rs), .int (lcmL rs 1)])
/-! ### vectors -/
def P_weighted_sums (a : Ad) : PSpec := fun xs y Q => ∃ (u v : Int) (ls rs : List Int), xs = [.int u, tupI ls, .int v, tupI rs] ∧ (Sz 6000 u ∧ Sz 6000 v ∧ SzL 6000 ls ∧ SzL 6000 rs ∧ ls.length ≤ 1000) ∧ Q (lstI (wsum u v ls rs))
def P_integer_dot (a : Ad) : PSpec := fun xs y Q => ∃ (ls rs : List Int), xs = [tupI ls, tupI rs] ∧ (SzL 6000 ls ∧ SzL 6000 rs ∧ ls.length ≤ 1000) ∧ Q (.int (dotI ls rs))
def I_Vector_init (a : Ad) : ISpec := fun xs y Q => ∃ (ts : List Int) (b : Int) (s : PV), xs = [s, .int b] ∧ SeqI s ts ∧ (ts = [] → y (ez a)) ∧ (ts ≠ [] → b = 0 → y (zb a)) ∧ (ts ≠ [] → b ≠ 0 → (ts.length ≤ 1000 ∧ Sz 8000 b) ∧ Q [("tops", tupI (normT ts b)), ("bottom", .int (normB ts b))])
theorem i_initL (a : Ad) (y : Y) (ts : List Int) (b : Int) (Q : List (Str × PV) → Prop) : I_Vector_init a [lstI ts, .int b] y Q = ((ts = [] → y (ez a)) ∧ (ts ≠ [] → b = 0 → y (zb a)) ∧ (ts ≠ [] → b ≠ 0 → (ts.length ≤ 1000 ∧ Sz 8000 b) ∧ Q [("tops", tupI (normT ts b)), ("bottom", .int (normB ts b))])) := by
  refine propext ⟨?_, fun h => ⟨ts, b, _, rfl, .inl rfl, h⟩⟩
  rintro ⟨ts', b', s, e, hs, h⟩
  simp only [List.cons.injEq, PV.int.injEq, and_true] at e
  obtain ⟨rfl, rfl⟩ := e
  rcases hs with hs | hs
  · injection hs with hs
    rw [map_int_inj hs]
    exact h
  · cases hs
theorem i_initT (a : Ad) (y : Y) (ts : List Int) (b : Int) (Q : List (Str × PV) → Prop) : I_Vector_init a [tupI ts, .int b] y Q = ((ts = [] → y (ez a)) ∧ (ts ≠ [] → b = 0 → y (zb a)) ∧ (ts ≠ [] → b ≠ 0 → (ts.length ≤ 1000 ∧ Sz 8000 b) ∧ Q [("tops", tupI (normT ts b)), ("bottom", .int (normB ts b))])) := by
  refine propext ⟨?_, fun h => ⟨ts, b, _, rfl, .inr rfl, h⟩⟩
  rintro ⟨ts', b', s, e, hs, h⟩
  simp only [List.cons.injEq, PV.int.injEq, and_true] at e
  obtain ⟨rfl, rfl⟩ := e
  rcases hs with hs | hs
  · cases hs
  · injection hs with hs
    rw [map_int_inj hs]
    exact h
def P_Vector_len (a : Ad) : PSpec := fun xs y Q => ∃ (ts : List Int) (b : Int), xs = [vec a.C_Vector ts b] ∧ Q (.int ts.length)
def P_Vector_getitem (a : Ad) : PSpec := fun xs y Q => ∃ (ts : List Int) (b k : Int), xs = [vec a.C_Vector ts b, .int k] ∧ ∃ t : Int, atI ts k = some t ∧ (b ≠ 0 ∧ Sz 8000 b) ∧ Q (rat a.C_Ratio (nT t b) (nB t b))
def P_Vector_is_zero (a : Ad) : PSpec := fun xs y Q => ∃ (ts : List Int) (b : Int), xs = [vec a.C_Vector ts b] ∧ ts.length ≤ 1000 ∧ Q (.bl (ts.all fun t => t == 0))
def P_Vector_add (a : Ad) : PSpec := fun xs y Q => ∃ (ts : List Int) (b : Int) (us : List Int) (c : Int), xs = [vec a.C_Vector ts b, vec a.C_Vector us c] ∧ (GV 2000 ts b ∧ GV 2000 us c) ∧ (ts.length ≠ us.length → y (sm a ts.length us.length)) ∧ (ts.length = us.length → Q (vecN a.C_Vector (addT ts b us c) (lcmZ b c)))
def P_Vector_sub (a : Ad) : PSpec := fun xs y Q => ∃ (ts : List Int) (b : Int) (us : List Int) (c : Int), xs = [vec a.C_Vector ts b, vec a.C_Vector us c] ∧ (GV 2000 ts b ∧ GV 2000 us c) ∧ (ts.length ≠ us.length → y (sm a ts.length us.length)) ∧ (ts.length = us.length → Q (vecN a.C_Vector (subT ts b us c) (lcmZ b c)))
def P_Vector_neg (a : Ad) : PSpec := fun xs y Q => ∃ (ts : List Int) (b : Int), xs = [vec a.C_Vector ts b] ∧ GV 2000 ts b ∧ Q (vecN a.C_Vector (ts.map fun t => -t) b)
def P_Vector_mul (a : Ad) : PSpec := fun xs y Q => ∃ (ts : List Int) (b : Int) (z : PV), xs = [vec a.C_Vector ts b, z] ∧ GV 2000 ts b ∧ ((∃ n : Int, z = .int n ∧ Sz 2000 n ∧ Q (vecN a.C_Vector (ts.map (· * n)) b)) ∨ (∃ p q : Int, z = rat a.C_Ratio p q ∧ (Sz 2000 p ∧ Sz 2000 q ∧ q ≠ 0) ∧ Q (vecN a.C_Vector (ts.map (· * p)) (b * q))))
theorem i_mulI (a : Ad) (y : Y) (ts : List Int) (b n : Int) (Q : PV → Prop) : P_Vector_mul a [vec a.C_Vector ts b, .int n] y Q = (GV 2000 ts b ∧ Sz 2000 n ∧ Q (vecN a.C_Vector (ts.map (· * n)) b)) := by
  refine propext ⟨?_, fun ⟨h1, h⟩ => ⟨ts, b, _, rfl, h1, .inl ⟨n, rfl, h⟩⟩⟩
  rintro ⟨ts', b', z, e, g, h⟩
  simp only [List.cons.injEq, PV.obj.injEq, PV.tup.injEq, PV.int.injEq, Prod.mk.injEq, map_int_inj_iff, true_and, and_true] at e
  obtain ⟨⟨rfl, rfl⟩, rfl⟩ := e
  rcases h with ⟨n', e, h⟩ | ⟨p, q, e, h⟩
  · cases e; exact ⟨g, h⟩
  · cases e
theorem i_mulR (a : Ad) (y : Y) (ts : List Int) (b p q : Int) (Q : PV → Prop) : P_Vector_mul a [vec a.C_Vector ts b, rat a.C_Ratio p q] y Q = (GV 2000 ts b ∧ (Sz 2000 p ∧ Sz 2000 q ∧ q ≠ 0) ∧ Q (vecN a.C_Vector (ts.map (· * p)) (b * q))) := by
  refine propext ⟨?_, fun ⟨h1, h⟩ => ⟨ts, b, _, rfl, h1, .inr ⟨p, q, rfl, h⟩⟩⟩
  rintro ⟨ts', b', z, e, g, h⟩
  simp only [List.cons.injEq, PV.obj.injEq, PV.tup.injEq, PV.int.injEq, Prod.mk.injEq, map_int_inj_iff, true_and, and_true] at e
  obtain ⟨⟨rfl, rfl⟩, rfl⟩ := e
  rcases h with ⟨n', e, h⟩ | ⟨p, q, e, h⟩
  · cases e
  · cases e; exact ⟨g, h⟩
def P_Vector_rmul (a : Ad) : PSpec := fun xs y Q => ∃ (ts : List Int) (b : Int) (z : PV), xs = [vec a.C_Vector ts b, z] ∧ GV 2000 ts b ∧ ((∃ n : Int, z = .int n ∧ Sz 2000 n ∧ Q (vecN a.C_Vector (ts.map (· * n)) b)) ∨ (∃ p q : Int, z = rat a.C_Ratio p q ∧ (Sz 2000 p ∧ Sz 2000 q ∧ q ≠ 0) ∧ Q (vecN a.C_Vector (ts.map (· * p)) (b * q))))
theorem i_rmulI (a : Ad) (y : Y) (ts : List Int) (b n : Int) (Q : PV → Prop) : P_Vector_rmul a [vec a.C_Vector ts b, .int n] y Q = (GV 2000 ts b ∧ Sz 2000 n ∧ Q (vecN a.C_Vector (ts.map (· * n)) b)) := i_mulI a y ts b n Q
theorem i_rmulR (a : Ad) (y : Y) (ts : List Int) (b p q : Int) (Q : PV → Prop) : P_Vector_rmul a [vec a.C_Vector ts b, rat a.C_Ratio p q] y Q = (GV 2000 ts b ∧ (Sz 2000 p ∧ Sz 2000 q ∧ q ≠ 0) ∧ Q (vecN a.C_Vector (ts.map (· * p)) (b * q))) := i_mulR a y ts b p q Q
def P_Vector_eq (a : Ad) : PSpec := fun xs y Q => ∃ (ts : List Int) (b : Int) (z : PV), xs = [vec a.C_Vector ts b, z] ∧ ((∃ (us : List Int) (c : Int), z = vec a.C_Vector us c ∧ (ts.length ≤ 1000 ∧ us.length ≤ 1000) ∧ Q (.bl (ts == us && b == c))) ∨ (isiC a.C_Vector [a.C_Ratio, a.C_Poly] z = some false ∧ Q (.bl false)))
theorem i_veqF (a : Ad) (y : Y) (ts : List Int) (b : Int) (z : PV) (hz : isiC a.C_Vector [a.C_Ratio, a.C_Poly] z = some false) (Q : PV → Prop) : P_Vector_eq a [vec a.C_Vector ts b, z] y Q = Q (.bl false) := by
  refine propext ⟨?_, fun h => ⟨ts, b, z, rfl, .inr ⟨hz, h⟩⟩⟩
  rintro ⟨ts', b', z', e, h⟩
  simp only [List.cons.injEq, PV.obj.injEq, PV.tup.injEq, PV.int.injEq, Prod.mk.injEq, map_int_inj_iff, and_assoc, true_and, and_true] at e
  obtain ⟨rfl, rfl, rfl⟩ := e
  rcases h with ⟨us, c, rfl, _, h⟩ | ⟨_, h⟩
  · rw [show isiC a.C_Vector [a.C_Ratio, a.C_Poly] (vec a.C_Vector us c) = some true from if_pos rfl] at hz
    cases hz
  · exact h
theorem i_veq (a : Ad) (y : Y) (ts : List Int) (b : Int) (us : List Int) (c : Int) (Q : PV → Prop) : P_Vector_eq a [vec a.C_Vector ts b, vec a.C_Vector us c] y Q = ((ts.length ≤ 1000 ∧ us.length ≤ 1000) ∧ Q (.bl (ts == us && b == c))) := by
  refine propext ⟨?_, fun h => ⟨ts, b, _, rfl, .inl ⟨us, c, rfl, h⟩⟩⟩
  rintro ⟨ts', b', z', e, h⟩
  simp only [List.cons.injEq, PV.obj.injEq, PV.tup.injEq, PV.int.injEq, Prod.mk.injEq, map_int_inj_iff, and_assoc, true_and, and_true] at e
  obtain ⟨rfl, rfl, rfl⟩ := e
  rcases h with ⟨us', c', e, h⟩ | ⟨e, _⟩
  · simp only [PV.obj.injEq, PV.tup.injEq, PV.int.injEq, List.cons.injEq, Prod.mk.injEq, map_int_inj_iff, and_assoc, true_and, and_true] at e
    obtain ⟨rfl, rfl⟩ := e
    exact h
  · rw [show isiC a.C_Vector [a.C_Ratio, a.C_Poly] (vec a.C_Vector us c) = some true from if_pos rfl] at e
    cases e
theorem i_veq_lst (a : Ad) (y : Y) (ts : List Int) (b : Int) (l : List PV) (Q : PV → Prop) : P_Vector_eq a [vec a.C_Vector ts b, .lst l] y Q = Q (.bl false) := i_veqF a y ts b _ rfl Q
theorem i_veq_tup (a : Ad) (y : Y) (ts : List Int) (b : Int) (l : List PV) (Q : PV → Prop) : P_Vector_eq a [vec a.C_Vector ts b, .tup l] y Q = Q (.bl false) := i_veqF a y ts b _ rfl Q
theorem i_veq_int (a : Ad) (y : Y) (ts : List Int) (b : Int) (l : Int) (Q : PV → Prop) : P_Vector_eq a [vec a.C_Vector ts b, .int l] y Q = Q (.bl false) := i_veqF a y ts b _ rfl Q
theorem i_veq_non (a : Ad) (y : Y) (ts : List Int) (b : Int) (Q : PV → Prop) : P_Vector_eq a [vec a.C_Vector ts b, .non] y Q = Q (.bl false) := i_veqF a y ts b _ rfl Q
def P_Vector_dot (a : Ad) : PSpec := fun xs y Q => ∃ (ts : List Int) (b : Int) (us : List Int) (c : Int), xs = [vec a.C_Vector ts b, vec a.C_Vector us c] ∧ (GV 2000 ts b ∧ GV 2000 us c) ∧ (ts.length ≠ us.length → y (sm a ts.length us.length)) ∧ (ts.length = us.length → Q (rat a.C_Ratio (nT (dotI ts us) (b * c)) (nB (dotI ts us) (b * c))))
def P_Vector_unit (a : Ad) : PSpec := fun xs y Q => ∃ (n : Nat) (k : Int), xs = [.int n, .int k] ∧ (0 < n ∧ n ≤ 100) ∧ Q (vec a.C_Vector (unitL n k) 1)
def P_Vector_zero (a : Ad) : PSpec := fun xs y Q => ∃ (n : Nat), xs = [.int n] ∧ (0 < n ∧ n ≤ 100) ∧ Q (vec a.C_Vector ((List.range n).map fun _ => 0) 1)
def P_Vector_of (a : Ad) : PSpec := fun xs y Q => ∃ (rs : List (Int × Int)) (s : PV), xs = [s] ∧ SeqR a.C_Ratio s rs ∧ GoodR rs ∧ (rs = [] → y (ez a)) ∧ (rs ≠ [] → Q (vecN a.C_Vector (topsOf rs) (lcmL rs 1)))
/-! ### polynomials -/
def I_Poly_init (a : Ad) : ISpec := fun xs y Q => ∃ (ts : List Int) (b : Int), xs = [lstI ts, .int b] ∧ (b = 0 → y (zb a)) ∧ (b ≠ 0 → (Sz 8000 b ∧ ts.length ≤ 1000) ∧ Q [("tops", tupI (normT (trim ts) b)), ("bottom", .int (normB (trim ts) b))])
/-! ### the laws' own common defs -/
def P_law_cell (a : Ad) : PSpec := fun xs y Q => ∃ (ns : List Int) (k : Int), xs = [lstI ns, .int k] ∧ 0 ≤ k ∧ ns.length ≤ 63 ∧ ∀ c, Q (.int c)
def P_law_mix (a : Ad) : PSpec := fun xs y Q => ∃ c k t : Int, xs = [.int c, .int k, .int t] ∧ ∀ r : Int, 0 ≤ r → r < 1024 → Q (.int r)
def P_law_draws (a : Ad) : PSpec := fun xs y Q => ∃ (ns : List Int) (k m : Int), xs = [lstI ns, .int k, .int m] ∧ 0 ≤ k ∧ ns.length ≤ 63 ∧ 0 ≤ m ∧ m ≤ 1000 ∧ ∀ rs : List Int, (rs.length : Int) = m → (∀ r ∈ rs, 0 ≤ r ∧ r < 1024) → Q (lstI rs)
def P_law_small (a : Ad) : PSpec := fun xs y Q => ∃ d : Int, xs = [.int d] ∧ ∀ r : Int, -32 ≤ r → r ≤ 31 → Q (.int r)
def P_law_bottom (a : Ad) : PSpec := fun xs y Q => ∃ d : Int, xs = [.int d] ∧ ∀ r : Int, 1 ≤ r → r ≤ 6 → Q (.int r)
def P_law_wide (a : Ad) : PSpec := fun xs y Q => ∃ (ns : List Int) (k : Int), xs = [lstI ns, .int k] ∧ 0 ≤ k ∧ ns.length ≤ 63 ∧ ∀ r : Int, Sz 60 r → Q (.int r)
def P_law_is_integer (a : Ad) : PSpec := fun xs y Q => ∃ i : Int, xs = [.int i] ∧ Q (.bl true)
def P_law_gcd (a : Ad) : PSpec := fun xs y Q => ∃ t b : Int, xs = [.int t, .int b] ∧ Sz 8000 b ∧ Q (.int (gcdZ t b))
def P_law_ratio (a : Ad) : PSpec := fun xs y Q => ∃ t b : Int, xs = [.int t, .int b] ∧ b ≠ 0 ∧ Sz 8000 b ∧ Q (.tup [.int (nT t b), .int (nB t b)])
def P_law_low (a : Ad) : PSpec := fun xs y Q => ∃ (ts : List Int) (b : Int), xs = [lstI ts, .int b] ∧ (b ≠ 0 ∧ Sz 8000 b ∧ SzL 8000 ts ∧ ts.length ≤ 1000) ∧ Q (.tup [lstI (normT ts b), .int (normB ts b)])
def P_law_is_ratio (a : Ad) : PSpec := fun xs y Q => ∃ t b p0 p1 : Int, xs = [rat a.C_Ratio t b, .tup [.int p0, .int p1]] ∧ Q (.bl (t == p0 && b == p1))
def P_law_truth (a : Ad) : PSpec := fun xs y Q => ∃ b c : Bool, xs = [.bl b, .bl c] ∧ Q (.bl (b == c))

-- simps: P_Vector_rmul
def P_Poly_eq (a : Ad) : PSpec := fun xs y Q => ∃ (fs : List (Str × PV)) (z : PV), xs = [.obj a.C_Poly fs, z] ∧ isiC a.C_Poly [a.C_Ratio, a.C_Vector] z = some false ∧ Q (.bl false)
/-! ### the law's own defs -/
def P_law_thing (a : Ad) : PSpec := fun xs y Q => ∃ (ns : List Int) (w : Int) (n : Nat), xs = [lstI ns, .int w, .int n] ∧ (ns.length ≤ 63 ∧ 0 ≤ w ∧ w ≤ 1 ∧ 1 ≤ n ∧ n ≤ 30) ∧ ∀ (ts : List Int) (b : Int), ts.length = n → SzL 100 ts → b ≠ 0 → Sz 100 b → Q (.tup [lstI ts, .int b])
def P_law_factors (a : Ad) : PSpec := fun xs y Q => ∃ (ns ds : List Int), xs = [lstI ns, lstI ds] ∧ (ns.length ≤ 63 ∧ ds.length = 8) ∧ ∀ n p q : Int, Sz 100 n → Sz 100 p → Sz 100 q → q ≠ 0 → Q (.tup [.int n, .lst [.int p, .int q]])
def P_law_is (a : Ad) : PSpec := fun xs y Q => ∃ (ts : List Int) (b : Int) (us : List Int) (c : Int), xs = [vec a.C_Vector ts b, .tup [lstI us, .int c]] ∧ us.length ≤ 1000 ∧ Q (.bl (ts == us && b == c))
def P_law_made (a : Ad) : PSpec := fun xs y Q => ∃ (ts : List Int) (b : Int), xs = [thg ts b] ∧ GV 1000 ts b ∧ Q (vecN a.C_Vector ts b)
/-- a lowest vector -/
def LV (ts : List Int) (b : Int) : Prop := LowV ts b ∧ GV 200 ts b
def P_law_alone (a : Ad) : PSpec := fun xs y Q => ∃ (ts : List Int) (b n p q : Int), xs = [vec a.C_Vector ts b, thg ts b, .int n, .lst [.int p, .int q]] ∧ (LV ts b ∧ Sz 100 n ∧ Sz 100 p ∧ Sz 100 q ∧ q ≠ 0) ∧ Q (.bl true)
def refusedS (m n : Nat) : PV := .lst [.int m, .int n, .str "sizes", .bl true, .bl true, .bl false]
def toldR (a : Ad) (ts : List Int) (b : Int) (us : List Int) (c : Int) (r : Int) : PV := if r = 0 then vecN a.C_Vector (addT ts b us c) (lcmZ b c) else if r = 1 then vecN a.C_Vector (subT ts b us c) (lcmZ b c) else rat a.C_Ratio (nT (dotI ts us) (b * c)) (nB (dotI ts us) (b * c))
def P_law_asked (a : Ad) : PSpec := fun xs y Q => ∃ (ts : List Int) (b : Int) (us : List Int) (c r : Int), xs = [vec a.C_Vector ts b, vec a.C_Vector us c, .int r] ∧ (LV ts b ∧ LV us c ∧ 0 ≤ r ∧ r ≤ 2) ∧ (ts.length ≠ us.length → Q (.tup [.non, refusedS ts.length us.length])) ∧ (ts.length = us.length → Q (.tup [toldR a ts b us c r, .lst []]))
def P_law_pair (a : Ad) : PSpec := fun xs y Q => ∃ (ts : List Int) (b : Int) (us : List Int) (c : Int), xs = [vec a.C_Vector ts b, vec a.C_Vector us c, thg ts b, thg us c] ∧ (LV ts b ∧ LV us c) ∧ Q (.bl true)
def emptyE : PV := .lst [.str "e", .str "empty", .bl true, .bl true, .bl false, .bl false]
def zeroE : PV := .lst [.str "z", .str "bottom", .bl true, .bl true, .bl false, .bl false]
def P_law_refusal (a : Ad) : PSpec := fun xs y Q => ∃ (ts : List Int) (b r : Int), xs = [lstI ts, .int b, .int r] ∧ (ts.length ≤ 100 ∧ Sz 1000 b ∧ 0 ≤ r ∧ r ≤ 3) ∧
  (ts = [] ∨ r = 1 ∨ r = 3 → Q emptyE) ∧ (ts ≠ [] → r = 0 → b = 0 → Q zeroE) ∧ (ts ≠ [] → r = 0 → b ≠ 0 → Q (.lst [])) ∧ (ts = [] ∨ r ≠ 2)
def P_law_refusals (a : Ad) : PSpec := fun xs y Q => ∃ (ts : List Int) (b : Int), xs = [thg ts b] ∧ GV 1000 ts b ∧ Q (.bl true)
def P_law_made_others (a : Ad) : PSpec := fun xs y Q => ∃ (ts : List Int) (b : Int) (us : List Int) (c k : Int), xs = [thg ts b, thg us c, .int k] ∧ (us = normT ts b ∧ c = normB ts b ∧ GV 100 ts b ∧ ts.length ≤ 30) ∧ Q (.bl true)
def P_law0 : PSpec := fun xs y Q => ∃ ns : List Int, xs = [lstI ns] ∧ ns.length ≤ 63 ∧ Q (.bl true)
theorem law0 (ns : List Int) (h : ns.length ≤ 63) : ∀ y, P_law0 [.lst (ns.map PV.int)] y (fun x => x = .bl true) := fun _ => ⟨ns, rfl, h, rfl⟩
def P_law (a : Ad) : PSpec := P_law0



theorem i_shared_part (a : Ad) (y : Y) (b : Int) (s : PV) (Q : PV → Prop) : P_shared_part a [s, .int b] y Q = (∃ (ts : List Int), SeqI s ts ∧ Q (.int (shared ts b))) := by
  refine propext ⟨?_, ?_⟩
  · rintro ⟨zts, zb, zs, e, h⟩
    simp only [List.cons.injEq, PV.lst.injEq, PV.tup.injEq, PV.obj.injEq, PV.int.injEq, PV.str.injEq, PV.bl.injEq, Prod.mk.injEq, map_int_inj_iff, Int.natCast_inj, and_assoc, true_and, and_true] at e
    obtain ⟨rfl, rfl⟩ := e
    exact ⟨zts, h⟩
  · rintro ⟨ts, h⟩
    exact ⟨ts, b, s, rfl, h⟩
theorem i_Ratio_init (a : Ad) (y : Y) (t : Int) (b : Int) (Q : List (Str × PV) → Prop) : I_Ratio_init a [.int t, .int b] y Q = ((b = 0 → y (zb a)) ∧ (b ≠ 0 → Sz 8000 b ∧ Q [("top", .int (nT t b)), ("bottom", .int (nB t b))])) := by
  refine propext ⟨?_, ?_⟩
  · rintro ⟨zt, zb, e, h⟩
    simp only [List.cons.injEq, PV.lst.injEq, PV.tup.injEq, PV.obj.injEq, PV.int.injEq, PV.str.injEq, PV.bl.injEq, Prod.mk.injEq, map_int_inj_iff, Int.natCast_inj, and_assoc, true_and, and_true] at e
    obtain ⟨rfl, rfl⟩ := e
    exact h
  · intro h
    exact ⟨t, b, rfl, h⟩
theorem i_Ratio_mul (a : Ad) (y : Y) (t : Int) (b : Int) (u : Int) (c : Int) (Q : PV → Prop) : P_Ratio_mul a [rat a.C_Ratio t b, rat a.C_Ratio u c] y Q = ((Sz 4000 t ∧ Sz 4000 b ∧ Sz 4000 u ∧ Sz 4000 c) ∧ (b ≠ 0 ∧ c ≠ 0) ∧ Q (rat a.C_Ratio (nT (t * u) (b * c)) (nB (t * u) (b * c)))) := by
  refine propext ⟨?_, ?_⟩
  · rintro ⟨zt, zb, zu, zc, e, h⟩
    simp only [List.cons.injEq, PV.lst.injEq, PV.tup.injEq, PV.obj.injEq, PV.int.injEq, PV.str.injEq, PV.bl.injEq, Prod.mk.injEq, map_int_inj_iff, Int.natCast_inj, and_assoc, true_and, and_true] at e
    obtain ⟨rfl, rfl, rfl, rfl⟩ := e
    exact h
  · intro h
    exact ⟨t, b, u, c, rfl, h⟩
theorem i_Ratio_eq (a : Ad) (y : Y) (t : Int) (b : Int) (z : PV) (Q : PV → Prop) : P_Ratio_eq a [rat a.C_Ratio t b, z] y Q = (((∃ u c : Int, z = rat a.C_Ratio u c ∧ Q (.bl (t == u && b == c))) ∨ (isiC a.C_Ratio [a.C_Vector, a.C_Poly] z = some false ∧ Q (.bl false)))) := by
  refine propext ⟨?_, ?_⟩
  · rintro ⟨zt, zb, zz, e, h⟩
    simp only [List.cons.injEq, PV.lst.injEq, PV.tup.injEq, PV.obj.injEq, PV.int.injEq, PV.str.injEq, PV.bl.injEq, Prod.mk.injEq, map_int_inj_iff, Int.natCast_inj, and_assoc, true_and, and_true] at e
    obtain ⟨rfl, rfl, rfl⟩ := e
    exact h
  · intro h
    exact ⟨t, b, z, rfl, h⟩
theorem i_common_bottom (a : Ad) (y : Y) (f : Int) (g : Int) (Q : PV → Prop) : P_common_bottom a [.int f, .int g] y Q = ((f ≠ 0 ∧ g ≠ 0 ∧ Sz 6000 f ∧ Sz 6000 g) ∧ Q (.tup [.int (lcmZ f g), .int ((lcmZ f g).fdiv f), .int ((lcmZ f g).fdiv g)])) := by
  refine propext ⟨?_, ?_⟩
  · rintro ⟨zf, zg, e, h⟩
    simp only [List.cons.injEq, PV.lst.injEq, PV.tup.injEq, PV.obj.injEq, PV.int.injEq, PV.str.injEq, PV.bl.injEq, Prod.mk.injEq, map_int_inj_iff, Int.natCast_inj, and_assoc, true_and, and_true] at e
    obtain ⟨rfl, rfl⟩ := e
    exact h
  · intro h
    exact ⟨f, g, rfl, h⟩
theorem i_over_one_bottom (a : Ad) (y : Y) (s : PV) (Q : PV → Prop) : P_over_one_bottom a [s] y Q = (∃ (rs : List (Int × Int)), SeqR a.C_Ratio s rs ∧ GoodR rs ∧ Q (.tup [lstI (topsOf rs), .int (lcmL rs 1)])) := by
  refine propext ⟨?_, ?_⟩
  · rintro ⟨zrs, zs, e, h⟩
    simp only [List.cons.injEq, PV.lst.injEq, PV.tup.injEq, PV.obj.injEq, PV.int.injEq, PV.str.injEq, PV.bl.injEq, Prod.mk.injEq, map_int_inj_iff, Int.natCast_inj, and_assoc, true_and, and_true] at e
    obtain ⟨rfl⟩ := e
    exact ⟨zrs, h⟩
  · rintro ⟨rs, h⟩
    exact ⟨rs, s, rfl, h⟩
theorem i_weighted_sums (a : Ad) (y : Y) (u : Int) (v : Int) (ls : List Int) (rs : List Int) (Q : PV → Prop) : P_weighted_sums a [.int u, tupI ls, .int v, tupI rs] y Q = ((Sz 6000 u ∧ Sz 6000 v ∧ SzL 6000 ls ∧ SzL 6000 rs ∧ ls.length ≤ 1000) ∧ Q (lstI (wsum u v ls rs))) := by
  refine propext ⟨?_, ?_⟩
  · rintro ⟨zu, zv, zls, zrs, e, h⟩
    simp only [List.cons.injEq, PV.lst.injEq, PV.tup.injEq, PV.obj.injEq, PV.int.injEq, PV.str.injEq, PV.bl.injEq, Prod.mk.injEq, map_int_inj_iff, Int.natCast_inj, and_assoc, true_and, and_true] at e
    obtain ⟨rfl, rfl, rfl, rfl⟩ := e
    exact h
  · intro h
    exact ⟨u, v, ls, rs, rfl, h⟩
theorem i_integer_dot (a : Ad) (y : Y) (ls : List Int) (rs : List Int) (Q : PV → Prop) : P_integer_dot a [tupI ls, tupI rs] y Q = ((SzL 6000 ls ∧ SzL 6000 rs ∧ ls.length ≤ 1000) ∧ Q (.int (dotI ls rs))) := by
  refine propext ⟨?_, ?_⟩
  · rintro ⟨zls, zrs, e, h⟩
    simp only [List.cons.injEq, PV.lst.injEq, PV.tup.injEq, PV.obj.injEq, PV.int.injEq, PV.str.injEq, PV.bl.injEq, Prod.mk.injEq, map_int_inj_iff, Int.natCast_inj, and_assoc, true_and, and_true] at e
    obtain ⟨rfl, rfl⟩ := e
    exact h
  · intro h
    exact ⟨ls, rs, rfl, h⟩
theorem i_Vector_init (a : Ad) (y : Y) (b : Int) (s : PV) (Q : List (Str × PV) → Prop) : I_Vector_init a [s, .int b] y Q = (∃ (ts : List Int), SeqI s ts ∧ (ts = [] → y (ez a)) ∧ (ts ≠ [] → b = 0 → y (zb a)) ∧ (ts ≠ [] → b ≠ 0 → (ts.length ≤ 1000 ∧ Sz 8000 b) ∧ Q [("tops", tupI (normT ts b)), ("bottom", .int (normB ts b))])) := by
  refine propext ⟨?_, ?_⟩
  · rintro ⟨zts, zb, zs, e, h⟩
    simp only [List.cons.injEq, PV.lst.injEq, PV.tup.injEq, PV.obj.injEq, PV.int.injEq, PV.str.injEq, PV.bl.injEq, Prod.mk.injEq, map_int_inj_iff, Int.natCast_inj, and_assoc, true_and, and_true] at e
    obtain ⟨rfl, rfl⟩ := e
    exact ⟨zts, h⟩
  · rintro ⟨ts, h⟩
    exact ⟨ts, b, s, rfl, h⟩
theorem i_Vector_len (a : Ad) (y : Y) (ts : List Int) (b : Int) (Q : PV → Prop) : P_Vector_len a [vec a.C_Vector ts b] y Q = (Q (.int ts.length)) := by
  refine propext ⟨?_, ?_⟩
  · rintro ⟨zts, zb, e, h⟩
    simp only [List.cons.injEq, PV.lst.injEq, PV.tup.injEq, PV.obj.injEq, PV.int.injEq, PV.str.injEq, PV.bl.injEq, Prod.mk.injEq, map_int_inj_iff, Int.natCast_inj, and_assoc, true_and, and_true] at e
    obtain ⟨rfl, rfl⟩ := e
    exact h
  · intro h
    exact ⟨ts, b, rfl, h⟩
theorem i_Vector_getitem (a : Ad) (y : Y) (ts : List Int) (b : Int) (k : Int) (Q : PV → Prop) : P_Vector_getitem a [vec a.C_Vector ts b, .int k] y Q = (∃ t : Int, atI ts k = some t ∧ (b ≠ 0 ∧ Sz 8000 b) ∧ Q (rat a.C_Ratio (nT t b) (nB t b))) := by
  refine propext ⟨?_, ?_⟩
  · rintro ⟨zts, zb, zk, e, h⟩
    simp only [List.cons.injEq, PV.lst.injEq, PV.tup.injEq, PV.obj.injEq, PV.int.injEq, PV.str.injEq, PV.bl.injEq, Prod.mk.injEq, map_int_inj_iff, Int.natCast_inj, and_assoc, true_and, and_true] at e
    obtain ⟨rfl, rfl, rfl⟩ := e
    exact h
  · intro h
    exact ⟨ts, b, k, rfl, h⟩
theorem i_Vector_is_zero (a : Ad) (y : Y) (ts : List Int) (b : Int) (Q : PV → Prop) : P_Vector_is_zero a [vec a.C_Vector ts b] y Q = (ts.length ≤ 1000 ∧ Q (.bl (ts.all fun t => t == 0))) := by
  refine propext ⟨?_, ?_⟩
  · rintro ⟨zts, zb, e, h⟩
    simp only [List.cons.injEq, PV.lst.injEq, PV.tup.injEq, PV.obj.injEq, PV.int.injEq, PV.str.injEq, PV.bl.injEq, Prod.mk.injEq, map_int_inj_iff, Int.natCast_inj, and_assoc, true_and, and_true] at e
    obtain ⟨rfl, rfl⟩ := e
    exact h
  · intro h
    exact ⟨ts, b, rfl, h⟩
theorem i_Vector_add (a : Ad) (y : Y) (ts : List Int) (b : Int) (us : List Int) (c : Int) (Q : PV → Prop) : P_Vector_add a [vec a.C_Vector ts b, vec a.C_Vector us c] y Q = ((GV 2000 ts b ∧ GV 2000 us c) ∧ (ts.length ≠ us.length → y (sm a ts.length us.length)) ∧ (ts.length = us.length → Q (vecN a.C_Vector (addT ts b us c) (lcmZ b c)))) := by
  refine propext ⟨?_, ?_⟩
  · rintro ⟨zts, zb, zus, zc, e, h⟩
    simp only [List.cons.injEq, PV.lst.injEq, PV.tup.injEq, PV.obj.injEq, PV.int.injEq, PV.str.injEq, PV.bl.injEq, Prod.mk.injEq, map_int_inj_iff, Int.natCast_inj, and_assoc, true_and, and_true] at e
    obtain ⟨rfl, rfl, rfl, rfl⟩ := e
    exact h
  · intro h
    exact ⟨ts, b, us, c, rfl, h⟩
theorem i_Vector_sub (a : Ad) (y : Y) (ts : List Int) (b : Int) (us : List Int) (c : Int) (Q : PV → Prop) : P_Vector_sub a [vec a.C_Vector ts b, vec a.C_Vector us c] y Q = ((GV 2000 ts b ∧ GV 2000 us c) ∧ (ts.length ≠ us.length → y (sm a ts.length us.length)) ∧ (ts.length = us.length → Q (vecN a.C_Vector (subT ts b us c) (lcmZ b c)))) := by
  refine propext ⟨?_, ?_⟩
  · rintro ⟨zts, zb, zus, zc, e, h⟩
    simp only [List.cons.injEq, PV.lst.injEq, PV.tup.injEq, PV.obj.injEq, PV.int.injEq, PV.str.injEq, PV.bl.injEq, Prod.mk.injEq, map_int_inj_iff, Int.natCast_inj, and_assoc, true_and, and_true] at e
    obtain ⟨rfl, rfl, rfl, rfl⟩ := e
    exact h
  · intro h
    exact ⟨ts, b, us, c, rfl, h⟩
theorem i_Vector_neg (a : Ad) (y : Y) (ts : List Int) (b : Int) (Q : PV → Prop) : P_Vector_neg a [vec a.C_Vector ts b] y Q = (GV 2000 ts b ∧ Q (vecN a.C_Vector (ts.map fun t => -t) b)) := by
  refine propext ⟨?_, ?_⟩
  · rintro ⟨zts, zb, e, h⟩
    simp only [List.cons.injEq, PV.lst.injEq, PV.tup.injEq, PV.obj.injEq, PV.int.injEq, PV.str.injEq, PV.bl.injEq, Prod.mk.injEq, map_int_inj_iff, Int.natCast_inj, and_assoc, true_and, and_true] at e
    obtain ⟨rfl, rfl⟩ := e
    exact h
  · intro h
    exact ⟨ts, b, rfl, h⟩
theorem i_Vector_mul (a : Ad) (y : Y) (ts : List Int) (b : Int) (z : PV) (Q : PV → Prop) : P_Vector_mul a [vec a.C_Vector ts b, z] y Q = (GV 2000 ts b ∧ ((∃ n : Int, z = .int n ∧ Sz 2000 n ∧ Q (vecN a.C_Vector (ts.map (· * n)) b)) ∨ (∃ p q : Int, z = rat a.C_Ratio p q ∧ (Sz 2000 p ∧ Sz 2000 q ∧ q ≠ 0) ∧ Q (vecN a.C_Vector (ts.map (· * p)) (b * q))))) := by
  refine propext ⟨?_, ?_⟩
  · rintro ⟨zts, zb, zz, e, h⟩
    simp only [List.cons.injEq, PV.lst.injEq, PV.tup.injEq, PV.obj.injEq, PV.int.injEq, PV.str.injEq, PV.bl.injEq, Prod.mk.injEq, map_int_inj_iff, Int.natCast_inj, and_assoc, true_and, and_true] at e
    obtain ⟨rfl, rfl, rfl⟩ := e
    exact h
  · intro h
    exact ⟨ts, b, z, rfl, h⟩
theorem i_Vector_rmul (a : Ad) (y : Y) (ts : List Int) (b : Int) (z : PV) (Q : PV → Prop) : P_Vector_rmul a [vec a.C_Vector ts b, z] y Q = (GV 2000 ts b ∧ ((∃ n : Int, z = .int n ∧ Sz 2000 n ∧ Q (vecN a.C_Vector (ts.map (· * n)) b)) ∨ (∃ p q : Int, z = rat a.C_Ratio p q ∧ (Sz 2000 p ∧ Sz 2000 q ∧ q ≠ 0) ∧ Q (vecN a.C_Vector (ts.map (· * p)) (b * q))))) := by
  refine propext ⟨?_, ?_⟩
  · rintro ⟨zts, zb, zz, e, h⟩
    simp only [List.cons.injEq, PV.lst.injEq, PV.tup.injEq, PV.obj.injEq, PV.int.injEq, PV.str.injEq, PV.bl.injEq, Prod.mk.injEq, map_int_inj_iff, Int.natCast_inj, and_assoc, true_and, and_true] at e
    obtain ⟨rfl, rfl, rfl⟩ := e
    exact h
  · intro h
    exact ⟨ts, b, z, rfl, h⟩
theorem i_Vector_eq (a : Ad) (y : Y) (ts : List Int) (b : Int) (z : PV) (Q : PV → Prop) : P_Vector_eq a [vec a.C_Vector ts b, z] y Q = (((∃ (us : List Int) (c : Int), z = vec a.C_Vector us c ∧ (ts.length ≤ 1000 ∧ us.length ≤ 1000) ∧ Q (.bl (ts == us && b == c))) ∨ (isiC a.C_Vector [a.C_Ratio, a.C_Poly] z = some false ∧ Q (.bl false)))) := by
  refine propext ⟨?_, ?_⟩
  · rintro ⟨zts, zb, zz, e, h⟩
    simp only [List.cons.injEq, PV.lst.injEq, PV.tup.injEq, PV.obj.injEq, PV.int.injEq, PV.str.injEq, PV.bl.injEq, Prod.mk.injEq, map_int_inj_iff, Int.natCast_inj, and_assoc, true_and, and_true] at e
    obtain ⟨rfl, rfl, rfl⟩ := e
    exact h
  · intro h
    exact ⟨ts, b, z, rfl, h⟩
theorem i_Vector_dot (a : Ad) (y : Y) (ts : List Int) (b : Int) (us : List Int) (c : Int) (Q : PV → Prop) : P_Vector_dot a [vec a.C_Vector ts b, vec a.C_Vector us c] y Q = ((GV 2000 ts b ∧ GV 2000 us c) ∧ (ts.length ≠ us.length → y (sm a ts.length us.length)) ∧ (ts.length = us.length → Q (rat a.C_Ratio (nT (dotI ts us) (b * c)) (nB (dotI ts us) (b * c))))) := by
  refine propext ⟨?_, ?_⟩
  · rintro ⟨zts, zb, zus, zc, e, h⟩
    simp only [List.cons.injEq, PV.lst.injEq, PV.tup.injEq, PV.obj.injEq, PV.int.injEq, PV.str.injEq, PV.bl.injEq, Prod.mk.injEq, map_int_inj_iff, Int.natCast_inj, and_assoc, true_and, and_true] at e
    obtain ⟨rfl, rfl, rfl, rfl⟩ := e
    exact h
  · intro h
    exact ⟨ts, b, us, c, rfl, h⟩
theorem i_Vector_unit (a : Ad) (y : Y) (n : Nat) (k : Int) (Q : PV → Prop) : P_Vector_unit a [.int n, .int k] y Q = ((0 < n ∧ n ≤ 100) ∧ Q (vec a.C_Vector (unitL n k) 1)) := by
  refine propext ⟨?_, ?_⟩
  · rintro ⟨zn, zk, e, h⟩
    simp only [List.cons.injEq, PV.lst.injEq, PV.tup.injEq, PV.obj.injEq, PV.int.injEq, PV.str.injEq, PV.bl.injEq, Prod.mk.injEq, map_int_inj_iff, Int.natCast_inj, and_assoc, true_and, and_true] at e
    obtain ⟨rfl, rfl⟩ := e
    exact h
  · intro h
    exact ⟨n, k, rfl, h⟩
theorem i_Vector_zero (a : Ad) (y : Y) (n : Nat) (Q : PV → Prop) : P_Vector_zero a [.int n] y Q = ((0 < n ∧ n ≤ 100) ∧ Q (vec a.C_Vector ((List.range n).map fun _ => 0) 1)) := by
  refine propext ⟨?_, ?_⟩
  · rintro ⟨zn, e, h⟩
    simp only [List.cons.injEq, PV.lst.injEq, PV.tup.injEq, PV.obj.injEq, PV.int.injEq, PV.str.injEq, PV.bl.injEq, Prod.mk.injEq, map_int_inj_iff, Int.natCast_inj, and_assoc, true_and, and_true] at e
    obtain ⟨rfl⟩ := e
    exact h
  · intro h
    exact ⟨n, rfl, h⟩
theorem i_Vector_of (a : Ad) (y : Y) (s : PV) (Q : PV → Prop) : P_Vector_of a [s] y Q = (∃ (rs : List (Int × Int)), SeqR a.C_Ratio s rs ∧ GoodR rs ∧ (rs = [] → y (ez a)) ∧ (rs ≠ [] → Q (vecN a.C_Vector (topsOf rs) (lcmL rs 1)))) := by
  refine propext ⟨?_, ?_⟩
  · rintro ⟨zrs, zs, e, h⟩
    simp only [List.cons.injEq, PV.lst.injEq, PV.tup.injEq, PV.obj.injEq, PV.int.injEq, PV.str.injEq, PV.bl.injEq, Prod.mk.injEq, map_int_inj_iff, Int.natCast_inj, and_assoc, true_and, and_true] at e
    obtain ⟨rfl⟩ := e
    exact ⟨zrs, h⟩
  · rintro ⟨rs, h⟩
    exact ⟨rs, s, rfl, h⟩
theorem i_Poly_init (a : Ad) (y : Y) (ts : List Int) (b : Int) (Q : List (Str × PV) → Prop) : I_Poly_init a [lstI ts, .int b] y Q = ((b = 0 → y (zb a)) ∧ (b ≠ 0 → (Sz 8000 b ∧ ts.length ≤ 1000) ∧ Q [("tops", tupI (normT (trim ts) b)), ("bottom", .int (normB (trim ts) b))])) := by
  refine propext ⟨?_, ?_⟩
  · rintro ⟨zts, zb, e, h⟩
    simp only [List.cons.injEq, PV.lst.injEq, PV.tup.injEq, PV.obj.injEq, PV.int.injEq, PV.str.injEq, PV.bl.injEq, Prod.mk.injEq, map_int_inj_iff, Int.natCast_inj, and_assoc, true_and, and_true] at e
    obtain ⟨rfl, rfl⟩ := e
    exact h
  · intro h
    exact ⟨ts, b, rfl, h⟩
theorem i_law_cell (a : Ad) (y : Y) (ns : List Int) (k : Int) (Q : PV → Prop) : P_law_cell a [lstI ns, .int k] y Q = (0 ≤ k ∧ ns.length ≤ 63 ∧ ∀ c, Q (.int c)) := by
  refine propext ⟨?_, ?_⟩
  · rintro ⟨zns, zk, e, h⟩
    simp only [List.cons.injEq, PV.lst.injEq, PV.tup.injEq, PV.obj.injEq, PV.int.injEq, PV.str.injEq, PV.bl.injEq, Prod.mk.injEq, map_int_inj_iff, Int.natCast_inj, and_assoc, true_and, and_true] at e
    obtain ⟨rfl, rfl⟩ := e
    exact h
  · intro h
    exact ⟨ns, k, rfl, h⟩
theorem i_law_mix (a : Ad) (y : Y) (c : Int) (k : Int) (t : Int) (Q : PV → Prop) : P_law_mix a [.int c, .int k, .int t] y Q = (∀ r : Int, 0 ≤ r → r < 1024 → Q (.int r)) := by
  refine propext ⟨?_, ?_⟩
  · rintro ⟨zc, zk, zt, e, h⟩
    simp only [List.cons.injEq, PV.lst.injEq, PV.tup.injEq, PV.obj.injEq, PV.int.injEq, PV.str.injEq, PV.bl.injEq, Prod.mk.injEq, map_int_inj_iff, Int.natCast_inj, and_assoc, true_and, and_true] at e
    obtain ⟨rfl, rfl, rfl⟩ := e
    exact h
  · intro h
    exact ⟨c, k, t, rfl, h⟩
theorem i_law_draws (a : Ad) (y : Y) (ns : List Int) (k : Int) (m : Int) (Q : PV → Prop) : P_law_draws a [lstI ns, .int k, .int m] y Q = (0 ≤ k ∧ ns.length ≤ 63 ∧ 0 ≤ m ∧ m ≤ 1000 ∧ ∀ rs : List Int, (rs.length : Int) = m → (∀ r ∈ rs, 0 ≤ r ∧ r < 1024) → Q (lstI rs)) := by
  refine propext ⟨?_, ?_⟩
  · rintro ⟨zns, zk, zm, e, h⟩
    simp only [List.cons.injEq, PV.lst.injEq, PV.tup.injEq, PV.obj.injEq, PV.int.injEq, PV.str.injEq, PV.bl.injEq, Prod.mk.injEq, map_int_inj_iff, Int.natCast_inj, and_assoc, true_and, and_true] at e
    obtain ⟨rfl, rfl, rfl⟩ := e
    exact h
  · intro h
    exact ⟨ns, k, m, rfl, h⟩
theorem i_law_small (a : Ad) (y : Y) (d : Int) (Q : PV → Prop) : P_law_small a [.int d] y Q = (∀ r : Int, -32 ≤ r → r ≤ 31 → Q (.int r)) := by
  refine propext ⟨?_, ?_⟩
  · rintro ⟨zd, e, h⟩
    simp only [List.cons.injEq, PV.lst.injEq, PV.tup.injEq, PV.obj.injEq, PV.int.injEq, PV.str.injEq, PV.bl.injEq, Prod.mk.injEq, map_int_inj_iff, Int.natCast_inj, and_assoc, true_and, and_true] at e
    obtain ⟨rfl⟩ := e
    exact h
  · intro h
    exact ⟨d, rfl, h⟩
theorem i_law_bottom (a : Ad) (y : Y) (d : Int) (Q : PV → Prop) : P_law_bottom a [.int d] y Q = (∀ r : Int, 1 ≤ r → r ≤ 6 → Q (.int r)) := by
  refine propext ⟨?_, ?_⟩
  · rintro ⟨zd, e, h⟩
    simp only [List.cons.injEq, PV.lst.injEq, PV.tup.injEq, PV.obj.injEq, PV.int.injEq, PV.str.injEq, PV.bl.injEq, Prod.mk.injEq, map_int_inj_iff, Int.natCast_inj, and_assoc, true_and, and_true] at e
    obtain ⟨rfl⟩ := e
    exact h
  · intro h
    exact ⟨d, rfl, h⟩
theorem i_law_wide (a : Ad) (y : Y) (ns : List Int) (k : Int) (Q : PV → Prop) : P_law_wide a [lstI ns, .int k] y Q = (0 ≤ k ∧ ns.length ≤ 63 ∧ ∀ r : Int, Sz 60 r → Q (.int r)) := by
  refine propext ⟨?_, ?_⟩
  · rintro ⟨zns, zk, e, h⟩
    simp only [List.cons.injEq, PV.lst.injEq, PV.tup.injEq, PV.obj.injEq, PV.int.injEq, PV.str.injEq, PV.bl.injEq, Prod.mk.injEq, map_int_inj_iff, Int.natCast_inj, and_assoc, true_and, and_true] at e
    obtain ⟨rfl, rfl⟩ := e
    exact h
  · intro h
    exact ⟨ns, k, rfl, h⟩
theorem i_law_is_integer (a : Ad) (y : Y) (i : Int) (Q : PV → Prop) : P_law_is_integer a [.int i] y Q = (Q (.bl true)) := by
  refine propext ⟨?_, ?_⟩
  · rintro ⟨zi, e, h⟩
    simp only [List.cons.injEq, PV.lst.injEq, PV.tup.injEq, PV.obj.injEq, PV.int.injEq, PV.str.injEq, PV.bl.injEq, Prod.mk.injEq, map_int_inj_iff, Int.natCast_inj, and_assoc, true_and, and_true] at e
    obtain ⟨rfl⟩ := e
    exact h
  · intro h
    exact ⟨i, rfl, h⟩
theorem i_law_gcd (a : Ad) (y : Y) (t : Int) (b : Int) (Q : PV → Prop) : P_law_gcd a [.int t, .int b] y Q = (Sz 8000 b ∧ Q (.int (gcdZ t b))) := by
  refine propext ⟨?_, ?_⟩
  · rintro ⟨zt, zb, e, h⟩
    simp only [List.cons.injEq, PV.lst.injEq, PV.tup.injEq, PV.obj.injEq, PV.int.injEq, PV.str.injEq, PV.bl.injEq, Prod.mk.injEq, map_int_inj_iff, Int.natCast_inj, and_assoc, true_and, and_true] at e
    obtain ⟨rfl, rfl⟩ := e
    exact h
  · intro h
    exact ⟨t, b, rfl, h⟩
theorem i_law_ratio (a : Ad) (y : Y) (t : Int) (b : Int) (Q : PV → Prop) : P_law_ratio a [.int t, .int b] y Q = (b ≠ 0 ∧ Sz 8000 b ∧ Q (.tup [.int (nT t b), .int (nB t b)])) := by
  refine propext ⟨?_, ?_⟩
  · rintro ⟨zt, zb, e, h⟩
    simp only [List.cons.injEq, PV.lst.injEq, PV.tup.injEq, PV.obj.injEq, PV.int.injEq, PV.str.injEq, PV.bl.injEq, Prod.mk.injEq, map_int_inj_iff, Int.natCast_inj, and_assoc, true_and, and_true] at e
    obtain ⟨rfl, rfl⟩ := e
    exact h
  · intro h
    exact ⟨t, b, rfl, h⟩
theorem i_law_low (a : Ad) (y : Y) (ts : List Int) (b : Int) (Q : PV → Prop) : P_law_low a [lstI ts, .int b] y Q = ((b ≠ 0 ∧ Sz 8000 b ∧ SzL 8000 ts ∧ ts.length ≤ 1000) ∧ Q (.tup [lstI (normT ts b), .int (normB ts b)])) := by
  refine propext ⟨?_, ?_⟩
  · rintro ⟨zts, zb, e, h⟩
    simp only [List.cons.injEq, PV.lst.injEq, PV.tup.injEq, PV.obj.injEq, PV.int.injEq, PV.str.injEq, PV.bl.injEq, Prod.mk.injEq, map_int_inj_iff, Int.natCast_inj, and_assoc, true_and, and_true] at e
    obtain ⟨rfl, rfl⟩ := e
    exact h
  · intro h
    exact ⟨ts, b, rfl, h⟩
theorem i_law_is_ratio (a : Ad) (y : Y) (t : Int) (b : Int) (p0 : Int) (p1 : Int) (Q : PV → Prop) : P_law_is_ratio a [rat a.C_Ratio t b, .tup [.int p0, .int p1]] y Q = (Q (.bl (t == p0 && b == p1))) := by
  refine propext ⟨?_, ?_⟩
  · rintro ⟨zt, zb, zp0, zp1, e, h⟩
    simp only [List.cons.injEq, PV.lst.injEq, PV.tup.injEq, PV.obj.injEq, PV.int.injEq, PV.str.injEq, PV.bl.injEq, Prod.mk.injEq, map_int_inj_iff, Int.natCast_inj, and_assoc, true_and, and_true] at e
    obtain ⟨rfl, rfl, rfl, rfl⟩ := e
    exact h
  · intro h
    exact ⟨t, b, p0, p1, rfl, h⟩
theorem i_law_truth (a : Ad) (y : Y) (b : Bool) (c : Bool) (Q : PV → Prop) : P_law_truth a [.bl b, .bl c] y Q = (Q (.bl (b == c))) := by
  refine propext ⟨?_, ?_⟩
  · rintro ⟨zb, zc, e, h⟩
    simp only [List.cons.injEq, PV.lst.injEq, PV.tup.injEq, PV.obj.injEq, PV.int.injEq, PV.str.injEq, PV.bl.injEq, Prod.mk.injEq, map_int_inj_iff, Int.natCast_inj, and_assoc, true_and, and_true] at e
    obtain ⟨rfl, rfl⟩ := e
    exact h
  · intro h
    exact ⟨b, c, rfl, h⟩
theorem i_Poly_eq (a : Ad) (y : Y) (fs : List (Str × PV)) (z : PV) (Q : PV → Prop) : P_Poly_eq a [.obj a.C_Poly fs, z] y Q = (isiC a.C_Poly [a.C_Ratio, a.C_Vector] z = some false ∧ Q (.bl false)) := by
  refine propext ⟨?_, ?_⟩
  · rintro ⟨zfs, zz, e, h⟩
    simp only [List.cons.injEq, PV.lst.injEq, PV.tup.injEq, PV.obj.injEq, PV.int.injEq, PV.str.injEq, PV.bl.injEq, Prod.mk.injEq, map_int_inj_iff, Int.natCast_inj, and_assoc, true_and, and_true] at e
    obtain ⟨rfl, rfl⟩ := e
    exact h
  · intro h
    exact ⟨fs, z, rfl, h⟩
theorem i_law_thing (a : Ad) (y : Y) (ns : List Int) (w : Int) (n : Nat) (Q : PV → Prop) : P_law_thing a [lstI ns, .int w, .int n] y Q = ((ns.length ≤ 63 ∧ 0 ≤ w ∧ w ≤ 1 ∧ 1 ≤ n ∧ n ≤ 30) ∧ ∀ (ts : List Int) (b : Int), ts.length = n → SzL 100 ts → b ≠ 0 → Sz 100 b → Q (.tup [lstI ts, .int b])) := by
  refine propext ⟨?_, ?_⟩
  · rintro ⟨zns, zw, zn, e, h⟩
    simp only [List.cons.injEq, PV.lst.injEq, PV.tup.injEq, PV.obj.injEq, PV.int.injEq, PV.str.injEq, PV.bl.injEq, Prod.mk.injEq, map_int_inj_iff, Int.natCast_inj, and_assoc, true_and, and_true] at e
    obtain ⟨rfl, rfl, rfl⟩ := e
    exact h
  · intro h
    exact ⟨ns, w, n, rfl, h⟩
theorem i_law_factors (a : Ad) (y : Y) (ns : List Int) (ds : List Int) (Q : PV → Prop) : P_law_factors a [lstI ns, lstI ds] y Q = ((ns.length ≤ 63 ∧ ds.length = 8) ∧ ∀ n p q : Int, Sz 100 n → Sz 100 p → Sz 100 q → q ≠ 0 → Q (.tup [.int n, .lst [.int p, .int q]])) := by
  refine propext ⟨?_, ?_⟩
  · rintro ⟨zns, zds, e, h⟩
    simp only [List.cons.injEq, PV.lst.injEq, PV.tup.injEq, PV.obj.injEq, PV.int.injEq, PV.str.injEq, PV.bl.injEq, Prod.mk.injEq, map_int_inj_iff, Int.natCast_inj, and_assoc, true_and, and_true] at e
    obtain ⟨rfl, rfl⟩ := e
    exact h
  · intro h
    exact ⟨ns, ds, rfl, h⟩
theorem i_law_is (a : Ad) (y : Y) (ts : List Int) (b : Int) (us : List Int) (c : Int) (Q : PV → Prop) : P_law_is a [vec a.C_Vector ts b, .tup [lstI us, .int c]] y Q = (us.length ≤ 1000 ∧ Q (.bl (ts == us && b == c))) := by
  refine propext ⟨?_, ?_⟩
  · rintro ⟨zts, zb, zus, zc, e, h⟩
    simp only [List.cons.injEq, PV.lst.injEq, PV.tup.injEq, PV.obj.injEq, PV.int.injEq, PV.str.injEq, PV.bl.injEq, Prod.mk.injEq, map_int_inj_iff, Int.natCast_inj, and_assoc, true_and, and_true] at e
    obtain ⟨rfl, rfl, rfl, rfl⟩ := e
    exact h
  · intro h
    exact ⟨ts, b, us, c, rfl, h⟩
theorem i_law_made (a : Ad) (y : Y) (ts : List Int) (b : Int) (Q : PV → Prop) : P_law_made a [thg ts b] y Q = (GV 1000 ts b ∧ Q (vecN a.C_Vector ts b)) := by
  refine propext ⟨?_, ?_⟩
  · rintro ⟨zts, zb, e, h⟩
    simp only [List.cons.injEq, PV.lst.injEq, PV.tup.injEq, PV.obj.injEq, PV.int.injEq, PV.str.injEq, PV.bl.injEq, Prod.mk.injEq, map_int_inj_iff, Int.natCast_inj, and_assoc, true_and, and_true] at e
    obtain ⟨rfl, rfl⟩ := e
    exact h
  · intro h
    exact ⟨ts, b, rfl, h⟩
theorem i_law_alone (a : Ad) (y : Y) (ts : List Int) (b : Int) (n : Int) (p : Int) (q : Int) (Q : PV → Prop) : P_law_alone a [vec a.C_Vector ts b, thg ts b, .int n, .lst [.int p, .int q]] y Q = ((LV ts b ∧ Sz 100 n ∧ Sz 100 p ∧ Sz 100 q ∧ q ≠ 0) ∧ Q (.bl true)) := by
  refine propext ⟨?_, ?_⟩
  · rintro ⟨zts, zb, zn, zp, zq, e, h⟩
    simp only [List.cons.injEq, PV.lst.injEq, PV.tup.injEq, PV.obj.injEq, PV.int.injEq, PV.str.injEq, PV.bl.injEq, Prod.mk.injEq, map_int_inj_iff, Int.natCast_inj, and_assoc, true_and, and_true] at e
    obtain ⟨rfl, rfl, _, _, rfl, rfl, rfl⟩ := e
    exact h
  · intro h
    exact ⟨ts, b, n, p, q, rfl, h⟩
theorem i_law_asked (a : Ad) (y : Y) (ts : List Int) (b : Int) (us : List Int) (c : Int) (r : Int) (Q : PV → Prop) : P_law_asked a [vec a.C_Vector ts b, vec a.C_Vector us c, .int r] y Q = ((LV ts b ∧ LV us c ∧ 0 ≤ r ∧ r ≤ 2) ∧ (ts.length ≠ us.length → Q (.tup [.non, refusedS ts.length us.length])) ∧ (ts.length = us.length → Q (.tup [toldR a ts b us c r, .lst []]))) := by
  refine propext ⟨?_, ?_⟩
  · rintro ⟨zts, zb, zus, zc, zr, e, h⟩
    simp only [List.cons.injEq, PV.lst.injEq, PV.tup.injEq, PV.obj.injEq, PV.int.injEq, PV.str.injEq, PV.bl.injEq, Prod.mk.injEq, map_int_inj_iff, Int.natCast_inj, and_assoc, true_and, and_true] at e
    obtain ⟨rfl, rfl, rfl, rfl, rfl⟩ := e
    exact h
  · intro h
    exact ⟨ts, b, us, c, r, rfl, h⟩
theorem i_law_pair (a : Ad) (y : Y) (ts : List Int) (b : Int) (us : List Int) (c : Int) (Q : PV → Prop) : P_law_pair a [vec a.C_Vector ts b, vec a.C_Vector us c, thg ts b, thg us c] y Q = ((LV ts b ∧ LV us c) ∧ Q (.bl true)) := by
  refine propext ⟨?_, ?_⟩
  · rintro ⟨zts, zb, zus, zc, e, h⟩
    simp only [List.cons.injEq, PV.lst.injEq, PV.tup.injEq, PV.obj.injEq, PV.int.injEq, PV.str.injEq, PV.bl.injEq, Prod.mk.injEq, map_int_inj_iff, Int.natCast_inj, and_assoc, true_and, and_true] at e
    obtain ⟨rfl, rfl, rfl, rfl, _, _, _, _⟩ := e
    exact h
  · intro h
    exact ⟨ts, b, us, c, rfl, h⟩
theorem i_law_refusal (a : Ad) (y : Y) (ts : List Int) (b : Int) (r : Int) (Q : PV → Prop) : P_law_refusal a [lstI ts, .int b, .int r] y Q = ((ts.length ≤ 100 ∧ Sz 1000 b ∧ 0 ≤ r ∧ r ≤ 3) ∧
  (ts = [] ∨ r = 1 ∨ r = 3 → Q emptyE) ∧ (ts ≠ [] → r = 0 → b = 0 → Q zeroE) ∧ (ts ≠ [] → r = 0 → b ≠ 0 → Q (.lst [])) ∧ (ts = [] ∨ r ≠ 2)) := by
  refine propext ⟨?_, ?_⟩
  · rintro ⟨zts, zb, zr, e, h⟩
    simp only [List.cons.injEq, PV.lst.injEq, PV.tup.injEq, PV.obj.injEq, PV.int.injEq, PV.str.injEq, PV.bl.injEq, Prod.mk.injEq, map_int_inj_iff, Int.natCast_inj, and_assoc, true_and, and_true] at e
    obtain ⟨rfl, rfl, rfl⟩ := e
    exact h
  · intro h
    exact ⟨ts, b, r, rfl, h⟩
theorem i_law_refusals (a : Ad) (y : Y) (ts : List Int) (b : Int) (Q : PV → Prop) : P_law_refusals a [thg ts b] y Q = (GV 1000 ts b ∧ Q (.bl true)) := by
  refine propext ⟨?_, ?_⟩
  · rintro ⟨zts, zb, e, h⟩
    simp only [List.cons.injEq, PV.lst.injEq, PV.tup.injEq, PV.obj.injEq, PV.int.injEq, PV.str.injEq, PV.bl.injEq, Prod.mk.injEq, map_int_inj_iff, Int.natCast_inj, and_assoc, true_and, and_true] at e
    obtain ⟨rfl, rfl⟩ := e
    exact h
  · intro h
    exact ⟨ts, b, rfl, h⟩
theorem i_law_made_others (a : Ad) (y : Y) (ts : List Int) (b : Int) (us : List Int) (c : Int) (k : Int) (Q : PV → Prop) : P_law_made_others a [thg ts b, thg us c, .int k] y Q = ((us = normT ts b ∧ c = normB ts b ∧ GV 100 ts b ∧ ts.length ≤ 30) ∧ Q (.bl true)) := by
  refine propext ⟨?_, ?_⟩
  · rintro ⟨zts, zb, zus, zc, zk, e, h⟩
    simp only [List.cons.injEq, PV.lst.injEq, PV.tup.injEq, PV.obj.injEq, PV.int.injEq, PV.str.injEq, PV.bl.injEq, Prod.mk.injEq, map_int_inj_iff, Int.natCast_inj, and_assoc, true_and, and_true] at e
    obtain ⟨rfl, rfl, rfl, rfl, rfl⟩ := e
    exact h
  · intro h
    exact ⟨ts, b, us, c, k, rfl, h⟩

/-! ### how many arguments -/
theorem len_shared_part (a : Ad) : ∀ xs y Q, P_shared_part a xs y Q → xs.length = 2 := by
  intro xs y Q h
  (try simp only [P_shared_part, P_law0, P_Vector_rmul] at h)
  (first | (exact h.elim) | (obtain ⟨_, _, _, _, _, _, _, _, rfl, _⟩ := h; rfl) | (obtain ⟨_, _, _, _, _, _, _, rfl, _⟩ := h; rfl) | (obtain ⟨_, _, _, _, _, _, rfl, _⟩ := h; rfl) | (obtain ⟨_, _, _, _, _, rfl, _⟩ := h; rfl) | (obtain ⟨_, _, _, _, rfl, _⟩ := h; rfl) | (obtain ⟨_, _, _, rfl, _⟩ := h; rfl) | (obtain ⟨_, _, rfl, _⟩ := h; rfl) | (obtain ⟨_, rfl, _⟩ := h; rfl) | (obtain ⟨rfl, _⟩ := h; rfl))
theorem len_Ratio_init (a : Ad) : ∀ xs y Q, I_Ratio_init a xs y Q → xs.length + 1 = 3 := by
  intro xs y Q h
  (try simp only [I_Ratio_init, P_law0, P_Vector_rmul] at h)
  (first | (exact h.elim) | (obtain ⟨_, _, _, _, _, _, _, _, rfl, _⟩ := h; rfl) | (obtain ⟨_, _, _, _, _, _, _, rfl, _⟩ := h; rfl) | (obtain ⟨_, _, _, _, _, _, rfl, _⟩ := h; rfl) | (obtain ⟨_, _, _, _, _, rfl, _⟩ := h; rfl) | (obtain ⟨_, _, _, _, rfl, _⟩ := h; rfl) | (obtain ⟨_, _, _, rfl, _⟩ := h; rfl) | (obtain ⟨_, _, rfl, _⟩ := h; rfl) | (obtain ⟨_, rfl, _⟩ := h; rfl) | (obtain ⟨rfl, _⟩ := h; rfl))
theorem len_Ratio_mul (a : Ad) : ∀ xs y Q, P_Ratio_mul a xs y Q → xs.length = 2 := by
  intro xs y Q h
  (try simp only [P_Ratio_mul, P_law0, P_Vector_rmul] at h)
  (first | (exact h.elim) | (obtain ⟨_, _, _, _, _, _, _, _, rfl, _⟩ := h; rfl) | (obtain ⟨_, _, _, _, _, _, _, rfl, _⟩ := h; rfl) | (obtain ⟨_, _, _, _, _, _, rfl, _⟩ := h; rfl) | (obtain ⟨_, _, _, _, _, rfl, _⟩ := h; rfl) | (obtain ⟨_, _, _, _, rfl, _⟩ := h; rfl) | (obtain ⟨_, _, _, rfl, _⟩ := h; rfl) | (obtain ⟨_, _, rfl, _⟩ := h; rfl) | (obtain ⟨_, rfl, _⟩ := h; rfl) | (obtain ⟨rfl, _⟩ := h; rfl))
theorem len_Ratio_eq (a : Ad) : ∀ xs y Q, P_Ratio_eq a xs y Q → xs.length = 2 := by
  intro xs y Q h
  (try simp only [P_Ratio_eq, P_law0, P_Vector_rmul] at h)
  (first | (exact h.elim) | (obtain ⟨_, _, _, _, _, _, _, _, rfl, _⟩ := h; rfl) | (obtain ⟨_, _, _, _, _, _, _, rfl, _⟩ := h; rfl) | (obtain ⟨_, _, _, _, _, _, rfl, _⟩ := h; rfl) | (obtain ⟨_, _, _, _, _, rfl, _⟩ := h; rfl) | (obtain ⟨_, _, _, _, rfl, _⟩ := h; rfl) | (obtain ⟨_, _, _, rfl, _⟩ := h; rfl) | (obtain ⟨_, _, rfl, _⟩ := h; rfl) | (obtain ⟨_, rfl, _⟩ := h; rfl) | (obtain ⟨rfl, _⟩ := h; rfl))
theorem len_common_bottom (a : Ad) : ∀ xs y Q, P_common_bottom a xs y Q → xs.length = 2 := by
  intro xs y Q h
  (try simp only [P_common_bottom, P_law0, P_Vector_rmul] at h)
  (first | (exact h.elim) | (obtain ⟨_, _, _, _, _, _, _, _, rfl, _⟩ := h; rfl) | (obtain ⟨_, _, _, _, _, _, _, rfl, _⟩ := h; rfl) | (obtain ⟨_, _, _, _, _, _, rfl, _⟩ := h; rfl) | (obtain ⟨_, _, _, _, _, rfl, _⟩ := h; rfl) | (obtain ⟨_, _, _, _, rfl, _⟩ := h; rfl) | (obtain ⟨_, _, _, rfl, _⟩ := h; rfl) | (obtain ⟨_, _, rfl, _⟩ := h; rfl) | (obtain ⟨_, rfl, _⟩ := h; rfl) | (obtain ⟨rfl, _⟩ := h; rfl))
theorem len_over_one_bottom (a : Ad) : ∀ xs y Q, P_over_one_bottom a xs y Q → xs.length = 1 := by
  intro xs y Q h
  (try simp only [P_over_one_bottom, P_law0, P_Vector_rmul] at h)
  (first | (exact h.elim) | (obtain ⟨_, _, _, _, _, _, _, _, rfl, _⟩ := h; rfl) | (obtain ⟨_, _, _, _, _, _, _, rfl, _⟩ := h; rfl) | (obtain ⟨_, _, _, _, _, _, rfl, _⟩ := h; rfl) | (obtain ⟨_, _, _, _, _, rfl, _⟩ := h; rfl) | (obtain ⟨_, _, _, _, rfl, _⟩ := h; rfl) | (obtain ⟨_, _, _, rfl, _⟩ := h; rfl) | (obtain ⟨_, _, rfl, _⟩ := h; rfl) | (obtain ⟨_, rfl, _⟩ := h; rfl) | (obtain ⟨rfl, _⟩ := h; rfl))
theorem len_weighted_sums (a : Ad) : ∀ xs y Q, P_weighted_sums a xs y Q → xs.length = 4 := by
  intro xs y Q h
  (try simp only [P_weighted_sums, P_law0, P_Vector_rmul] at h)
  (first | (exact h.elim) | (obtain ⟨_, _, _, _, _, _, _, _, rfl, _⟩ := h; rfl) | (obtain ⟨_, _, _, _, _, _, _, rfl, _⟩ := h; rfl) | (obtain ⟨_, _, _, _, _, _, rfl, _⟩ := h; rfl) | (obtain ⟨_, _, _, _, _, rfl, _⟩ := h; rfl) | (obtain ⟨_, _, _, _, rfl, _⟩ := h; rfl) | (obtain ⟨_, _, _, rfl, _⟩ := h; rfl) | (obtain ⟨_, _, rfl, _⟩ := h; rfl) | (obtain ⟨_, rfl, _⟩ := h; rfl) | (obtain ⟨rfl, _⟩ := h; rfl))
theorem len_integer_dot (a : Ad) : ∀ xs y Q, P_integer_dot a xs y Q → xs.length = 2 := by
  intro xs y Q h
  (try simp only [P_integer_dot, P_law0, P_Vector_rmul] at h)
  (first | (exact h.elim) | (obtain ⟨_, _, _, _, _, _, _, _, rfl, _⟩ := h; rfl) | (obtain ⟨_, _, _, _, _, _, _, rfl, _⟩ := h; rfl) | (obtain ⟨_, _, _, _, _, _, rfl, _⟩ := h; rfl) | (obtain ⟨_, _, _, _, _, rfl, _⟩ := h; rfl) | (obtain ⟨_, _, _, _, rfl, _⟩ := h; rfl) | (obtain ⟨_, _, _, rfl, _⟩ := h; rfl) | (obtain ⟨_, _, rfl, _⟩ := h; rfl) | (obtain ⟨_, rfl, _⟩ := h; rfl) | (obtain ⟨rfl, _⟩ := h; rfl))
theorem len_Vector_init (a : Ad) : ∀ xs y Q, I_Vector_init a xs y Q → xs.length + 1 = 3 := by
  intro xs y Q h
  (try simp only [I_Vector_init, P_law0, P_Vector_rmul] at h)
  (first | (exact h.elim) | (obtain ⟨_, _, _, _, _, _, _, _, rfl, _⟩ := h; rfl) | (obtain ⟨_, _, _, _, _, _, _, rfl, _⟩ := h; rfl) | (obtain ⟨_, _, _, _, _, _, rfl, _⟩ := h; rfl) | (obtain ⟨_, _, _, _, _, rfl, _⟩ := h; rfl) | (obtain ⟨_, _, _, _, rfl, _⟩ := h; rfl) | (obtain ⟨_, _, _, rfl, _⟩ := h; rfl) | (obtain ⟨_, _, rfl, _⟩ := h; rfl) | (obtain ⟨_, rfl, _⟩ := h; rfl) | (obtain ⟨rfl, _⟩ := h; rfl))
theorem len_Vector_is_zero (a : Ad) : ∀ xs y Q, P_Vector_is_zero a xs y Q → xs.length = 1 := by
  intro xs y Q h
  (try simp only [P_Vector_is_zero, P_law0, P_Vector_rmul] at h)
  (first | (exact h.elim) | (obtain ⟨_, _, _, _, _, _, _, _, rfl, _⟩ := h; rfl) | (obtain ⟨_, _, _, _, _, _, _, rfl, _⟩ := h; rfl) | (obtain ⟨_, _, _, _, _, _, rfl, _⟩ := h; rfl) | (obtain ⟨_, _, _, _, _, rfl, _⟩ := h; rfl) | (obtain ⟨_, _, _, _, rfl, _⟩ := h; rfl) | (obtain ⟨_, _, _, rfl, _⟩ := h; rfl) | (obtain ⟨_, _, rfl, _⟩ := h; rfl) | (obtain ⟨_, rfl, _⟩ := h; rfl) | (obtain ⟨rfl, _⟩ := h; rfl))
theorem len_Vector_len (a : Ad) : ∀ xs y Q, P_Vector_len a xs y Q → xs.length = 1 := by
  intro xs y Q h
  (try simp only [P_Vector_len, P_law0, P_Vector_rmul] at h)
  (first | (exact h.elim) | (obtain ⟨_, _, _, _, _, _, _, _, rfl, _⟩ := h; rfl) | (obtain ⟨_, _, _, _, _, _, _, rfl, _⟩ := h; rfl) | (obtain ⟨_, _, _, _, _, _, rfl, _⟩ := h; rfl) | (obtain ⟨_, _, _, _, _, rfl, _⟩ := h; rfl) | (obtain ⟨_, _, _, _, rfl, _⟩ := h; rfl) | (obtain ⟨_, _, _, rfl, _⟩ := h; rfl) | (obtain ⟨_, _, rfl, _⟩ := h; rfl) | (obtain ⟨_, rfl, _⟩ := h; rfl) | (obtain ⟨rfl, _⟩ := h; rfl))
theorem len_Vector_getitem (a : Ad) : ∀ xs y Q, P_Vector_getitem a xs y Q → xs.length = 2 := by
  intro xs y Q h
  (try simp only [P_Vector_getitem, P_law0, P_Vector_rmul] at h)
  (first | (exact h.elim) | (obtain ⟨_, _, _, _, _, _, _, _, rfl, _⟩ := h; rfl) | (obtain ⟨_, _, _, _, _, _, _, rfl, _⟩ := h; rfl) | (obtain ⟨_, _, _, _, _, _, rfl, _⟩ := h; rfl) | (obtain ⟨_, _, _, _, _, rfl, _⟩ := h; rfl) | (obtain ⟨_, _, _, _, rfl, _⟩ := h; rfl) | (obtain ⟨_, _, _, rfl, _⟩ := h; rfl) | (obtain ⟨_, _, rfl, _⟩ := h; rfl) | (obtain ⟨_, rfl, _⟩ := h; rfl) | (obtain ⟨rfl, _⟩ := h; rfl))
theorem len_Vector_add (a : Ad) : ∀ xs y Q, P_Vector_add a xs y Q → xs.length = 2 := by
  intro xs y Q h
  (try simp only [P_Vector_add, P_law0, P_Vector_rmul] at h)
  (first | (exact h.elim) | (obtain ⟨_, _, _, _, _, _, _, _, rfl, _⟩ := h; rfl) | (obtain ⟨_, _, _, _, _, _, _, rfl, _⟩ := h; rfl) | (obtain ⟨_, _, _, _, _, _, rfl, _⟩ := h; rfl) | (obtain ⟨_, _, _, _, _, rfl, _⟩ := h; rfl) | (obtain ⟨_, _, _, _, rfl, _⟩ := h; rfl) | (obtain ⟨_, _, _, rfl, _⟩ := h; rfl) | (obtain ⟨_, _, rfl, _⟩ := h; rfl) | (obtain ⟨_, rfl, _⟩ := h; rfl) | (obtain ⟨rfl, _⟩ := h; rfl))
theorem len_Vector_sub (a : Ad) : ∀ xs y Q, P_Vector_sub a xs y Q → xs.length = 2 := by
  intro xs y Q h
  (try simp only [P_Vector_sub, P_law0, P_Vector_rmul] at h)
  (first | (exact h.elim) | (obtain ⟨_, _, _, _, _, _, _, _, rfl, _⟩ := h; rfl) | (obtain ⟨_, _, _, _, _, _, _, rfl, _⟩ := h; rfl) | (obtain ⟨_, _, _, _, _, _, rfl, _⟩ := h; rfl) | (obtain ⟨_, _, _, _, _, rfl, _⟩ := h; rfl) | (obtain ⟨_, _, _, _, rfl, _⟩ := h; rfl) | (obtain ⟨_, _, _, rfl, _⟩ := h; rfl) | (obtain ⟨_, _, rfl, _⟩ := h; rfl) | (obtain ⟨_, rfl, _⟩ := h; rfl) | (obtain ⟨rfl, _⟩ := h; rfl))
theorem len_Vector_neg (a : Ad) : ∀ xs y Q, P_Vector_neg a xs y Q → xs.length = 1 := by
  intro xs y Q h
  (try simp only [P_Vector_neg, P_law0, P_Vector_rmul] at h)
  (first | (exact h.elim) | (obtain ⟨_, _, _, _, _, _, _, _, rfl, _⟩ := h; rfl) | (obtain ⟨_, _, _, _, _, _, _, rfl, _⟩ := h; rfl) | (obtain ⟨_, _, _, _, _, _, rfl, _⟩ := h; rfl) | (obtain ⟨_, _, _, _, _, rfl, _⟩ := h; rfl) | (obtain ⟨_, _, _, _, rfl, _⟩ := h; rfl) | (obtain ⟨_, _, _, rfl, _⟩ := h; rfl) | (obtain ⟨_, _, rfl, _⟩ := h; rfl) | (obtain ⟨_, rfl, _⟩ := h; rfl) | (obtain ⟨rfl, _⟩ := h; rfl))
theorem len_Vector_mul (a : Ad) : ∀ xs y Q, P_Vector_mul a xs y Q → xs.length = 2 := by
  intro xs y Q h
  (try simp only [P_Vector_mul, P_law0, P_Vector_rmul] at h)
  (first | (exact h.elim) | (obtain ⟨_, _, _, _, _, _, _, _, rfl, _⟩ := h; rfl) | (obtain ⟨_, _, _, _, _, _, _, rfl, _⟩ := h; rfl) | (obtain ⟨_, _, _, _, _, _, rfl, _⟩ := h; rfl) | (obtain ⟨_, _, _, _, _, rfl, _⟩ := h; rfl) | (obtain ⟨_, _, _, _, rfl, _⟩ := h; rfl) | (obtain ⟨_, _, _, rfl, _⟩ := h; rfl) | (obtain ⟨_, _, rfl, _⟩ := h; rfl) | (obtain ⟨_, rfl, _⟩ := h; rfl) | (obtain ⟨rfl, _⟩ := h; rfl))
theorem len_Vector_rmul (a : Ad) : ∀ xs y Q, P_Vector_rmul a xs y Q → xs.length = 2 := by
  intro xs y Q h
  (try simp only [P_Vector_rmul, P_law0, P_Vector_rmul] at h)
  (first | (exact h.elim) | (obtain ⟨_, _, _, _, _, _, _, _, rfl, _⟩ := h; rfl) | (obtain ⟨_, _, _, _, _, _, _, rfl, _⟩ := h; rfl) | (obtain ⟨_, _, _, _, _, _, rfl, _⟩ := h; rfl) | (obtain ⟨_, _, _, _, _, rfl, _⟩ := h; rfl) | (obtain ⟨_, _, _, _, rfl, _⟩ := h; rfl) | (obtain ⟨_, _, _, rfl, _⟩ := h; rfl) | (obtain ⟨_, _, rfl, _⟩ := h; rfl) | (obtain ⟨_, rfl, _⟩ := h; rfl) | (obtain ⟨rfl, _⟩ := h; rfl))
theorem len_Vector_eq (a : Ad) : ∀ xs y Q, P_Vector_eq a xs y Q → xs.length = 2 := by
  intro xs y Q h
  (try simp only [P_Vector_eq, P_law0, P_Vector_rmul] at h)
  (first | (exact h.elim) | (obtain ⟨_, _, _, _, _, _, _, _, rfl, _⟩ := h; rfl) | (obtain ⟨_, _, _, _, _, _, _, rfl, _⟩ := h; rfl) | (obtain ⟨_, _, _, _, _, _, rfl, _⟩ := h; rfl) | (obtain ⟨_, _, _, _, _, rfl, _⟩ := h; rfl) | (obtain ⟨_, _, _, _, rfl, _⟩ := h; rfl) | (obtain ⟨_, _, _, rfl, _⟩ := h; rfl) | (obtain ⟨_, _, rfl, _⟩ := h; rfl) | (obtain ⟨_, rfl, _⟩ := h; rfl) | (obtain ⟨rfl, _⟩ := h; rfl))
theorem len_Vector_dot (a : Ad) : ∀ xs y Q, P_Vector_dot a xs y Q → xs.length = 2 := by
  intro xs y Q h
  (try simp only [P_Vector_dot, P_law0, P_Vector_rmul] at h)
  (first | (exact h.elim) | (obtain ⟨_, _, _, _, _, _, _, _, rfl, _⟩ := h; rfl) | (obtain ⟨_, _, _, _, _, _, _, rfl, _⟩ := h; rfl) | (obtain ⟨_, _, _, _, _, _, rfl, _⟩ := h; rfl) | (obtain ⟨_, _, _, _, _, rfl, _⟩ := h; rfl) | (obtain ⟨_, _, _, _, rfl, _⟩ := h; rfl) | (obtain ⟨_, _, _, rfl, _⟩ := h; rfl) | (obtain ⟨_, _, rfl, _⟩ := h; rfl) | (obtain ⟨_, rfl, _⟩ := h; rfl) | (obtain ⟨rfl, _⟩ := h; rfl))
theorem len_Vector_unit (a : Ad) : ∀ xs y Q, P_Vector_unit a xs y Q → xs.length = 2 := by
  intro xs y Q h
  (try simp only [P_Vector_unit, P_law0, P_Vector_rmul] at h)
  (first | (exact h.elim) | (obtain ⟨_, _, _, _, _, _, _, _, rfl, _⟩ := h; rfl) | (obtain ⟨_, _, _, _, _, _, _, rfl, _⟩ := h; rfl) | (obtain ⟨_, _, _, _, _, _, rfl, _⟩ := h; rfl) | (obtain ⟨_, _, _, _, _, rfl, _⟩ := h; rfl) | (obtain ⟨_, _, _, _, rfl, _⟩ := h; rfl) | (obtain ⟨_, _, _, rfl, _⟩ := h; rfl) | (obtain ⟨_, _, rfl, _⟩ := h; rfl) | (obtain ⟨_, rfl, _⟩ := h; rfl) | (obtain ⟨rfl, _⟩ := h; rfl))
theorem len_Vector_zero (a : Ad) : ∀ xs y Q, P_Vector_zero a xs y Q → xs.length = 1 := by
  intro xs y Q h
  (try simp only [P_Vector_zero, P_law0, P_Vector_rmul] at h)
  (first | (exact h.elim) | (obtain ⟨_, _, _, _, _, _, _, _, rfl, _⟩ := h; rfl) | (obtain ⟨_, _, _, _, _, _, _, rfl, _⟩ := h; rfl) | (obtain ⟨_, _, _, _, _, _, rfl, _⟩ := h; rfl) | (obtain ⟨_, _, _, _, _, rfl, _⟩ := h; rfl) | (obtain ⟨_, _, _, _, rfl, _⟩ := h; rfl) | (obtain ⟨_, _, _, rfl, _⟩ := h; rfl) | (obtain ⟨_, _, rfl, _⟩ := h; rfl) | (obtain ⟨_, rfl, _⟩ := h; rfl) | (obtain ⟨rfl, _⟩ := h; rfl))
theorem len_Vector_of (a : Ad) : ∀ xs y Q, P_Vector_of a xs y Q → xs.length = 1 := by
  intro xs y Q h
  (try simp only [P_Vector_of, P_law0, P_Vector_rmul] at h)
  (first | (exact h.elim) | (obtain ⟨_, _, _, _, _, _, _, _, rfl, _⟩ := h; rfl) | (obtain ⟨_, _, _, _, _, _, _, rfl, _⟩ := h; rfl) | (obtain ⟨_, _, _, _, _, _, rfl, _⟩ := h; rfl) | (obtain ⟨_, _, _, _, _, rfl, _⟩ := h; rfl) | (obtain ⟨_, _, _, _, rfl, _⟩ := h; rfl) | (obtain ⟨_, _, _, rfl, _⟩ := h; rfl) | (obtain ⟨_, _, rfl, _⟩ := h; rfl) | (obtain ⟨_, rfl, _⟩ := h; rfl) | (obtain ⟨rfl, _⟩ := h; rfl))
theorem len_Poly_init (a : Ad) : ∀ xs y Q, I_Poly_init a xs y Q → xs.length + 1 = 3 := by
  intro xs y Q h
  (try simp only [I_Poly_init, P_law0, P_Vector_rmul] at h)
  (first | (exact h.elim) | (obtain ⟨_, _, _, _, _, _, _, _, rfl, _⟩ := h; rfl) | (obtain ⟨_, _, _, _, _, _, _, rfl, _⟩ := h; rfl) | (obtain ⟨_, _, _, _, _, _, rfl, _⟩ := h; rfl) | (obtain ⟨_, _, _, _, _, rfl, _⟩ := h; rfl) | (obtain ⟨_, _, _, _, rfl, _⟩ := h; rfl) | (obtain ⟨_, _, _, rfl, _⟩ := h; rfl) | (obtain ⟨_, _, rfl, _⟩ := h; rfl) | (obtain ⟨_, rfl, _⟩ := h; rfl) | (obtain ⟨rfl, _⟩ := h; rfl))
theorem len_Poly_eq (a : Ad) : ∀ xs y Q, P_Poly_eq a xs y Q → xs.length = 2 := by
  intro xs y Q h
  (try simp only [P_Poly_eq, P_law0, P_Vector_rmul] at h)
  (first | (exact h.elim) | (obtain ⟨_, _, _, _, _, _, _, _, rfl, _⟩ := h; rfl) | (obtain ⟨_, _, _, _, _, _, _, rfl, _⟩ := h; rfl) | (obtain ⟨_, _, _, _, _, _, rfl, _⟩ := h; rfl) | (obtain ⟨_, _, _, _, _, rfl, _⟩ := h; rfl) | (obtain ⟨_, _, _, _, rfl, _⟩ := h; rfl) | (obtain ⟨_, _, _, rfl, _⟩ := h; rfl) | (obtain ⟨_, _, rfl, _⟩ := h; rfl) | (obtain ⟨_, rfl, _⟩ := h; rfl) | (obtain ⟨rfl, _⟩ := h; rfl))
theorem len_law_cell (a : Ad) : ∀ xs y Q, P_law_cell a xs y Q → xs.length = 2 := by
  intro xs y Q h
  (try simp only [P_law_cell, P_law0, P_Vector_rmul] at h)
  (first | (exact h.elim) | (obtain ⟨_, _, _, _, _, _, _, _, rfl, _⟩ := h; rfl) | (obtain ⟨_, _, _, _, _, _, _, rfl, _⟩ := h; rfl) | (obtain ⟨_, _, _, _, _, _, rfl, _⟩ := h; rfl) | (obtain ⟨_, _, _, _, _, rfl, _⟩ := h; rfl) | (obtain ⟨_, _, _, _, rfl, _⟩ := h; rfl) | (obtain ⟨_, _, _, rfl, _⟩ := h; rfl) | (obtain ⟨_, _, rfl, _⟩ := h; rfl) | (obtain ⟨_, rfl, _⟩ := h; rfl) | (obtain ⟨rfl, _⟩ := h; rfl))
theorem len_law_mix (a : Ad) : ∀ xs y Q, P_law_mix a xs y Q → xs.length = 3 := by
  intro xs y Q h
  (try simp only [P_law_mix, P_law0, P_Vector_rmul] at h)
  (first | (exact h.elim) | (obtain ⟨_, _, _, _, _, _, _, _, rfl, _⟩ := h; rfl) | (obtain ⟨_, _, _, _, _, _, _, rfl, _⟩ := h; rfl) | (obtain ⟨_, _, _, _, _, _, rfl, _⟩ := h; rfl) | (obtain ⟨_, _, _, _, _, rfl, _⟩ := h; rfl) | (obtain ⟨_, _, _, _, rfl, _⟩ := h; rfl) | (obtain ⟨_, _, _, rfl, _⟩ := h; rfl) | (obtain ⟨_, _, rfl, _⟩ := h; rfl) | (obtain ⟨_, rfl, _⟩ := h; rfl) | (obtain ⟨rfl, _⟩ := h; rfl))
theorem len_law_draws (a : Ad) : ∀ xs y Q, P_law_draws a xs y Q → xs.length = 3 := by
  intro xs y Q h
  (try simp only [P_law_draws, P_law0, P_Vector_rmul] at h)
  (first | (exact h.elim) | (obtain ⟨_, _, _, _, _, _, _, _, rfl, _⟩ := h; rfl) | (obtain ⟨_, _, _, _, _, _, _, rfl, _⟩ := h; rfl) | (obtain ⟨_, _, _, _, _, _, rfl, _⟩ := h; rfl) | (obtain ⟨_, _, _, _, _, rfl, _⟩ := h; rfl) | (obtain ⟨_, _, _, _, rfl, _⟩ := h; rfl) | (obtain ⟨_, _, _, rfl, _⟩ := h; rfl) | (obtain ⟨_, _, rfl, _⟩ := h; rfl) | (obtain ⟨_, rfl, _⟩ := h; rfl) | (obtain ⟨rfl, _⟩ := h; rfl))
theorem len_law_small (a : Ad) : ∀ xs y Q, P_law_small a xs y Q → xs.length = 1 := by
  intro xs y Q h
  (try simp only [P_law_small, P_law0, P_Vector_rmul] at h)
  (first | (exact h.elim) | (obtain ⟨_, _, _, _, _, _, _, _, rfl, _⟩ := h; rfl) | (obtain ⟨_, _, _, _, _, _, _, rfl, _⟩ := h; rfl) | (obtain ⟨_, _, _, _, _, _, rfl, _⟩ := h; rfl) | (obtain ⟨_, _, _, _, _, rfl, _⟩ := h; rfl) | (obtain ⟨_, _, _, _, rfl, _⟩ := h; rfl) | (obtain ⟨_, _, _, rfl, _⟩ := h; rfl) | (obtain ⟨_, _, rfl, _⟩ := h; rfl) | (obtain ⟨_, rfl, _⟩ := h; rfl) | (obtain ⟨rfl, _⟩ := h; rfl))
theorem len_law_bottom (a : Ad) : ∀ xs y Q, P_law_bottom a xs y Q → xs.length = 1 := by
  intro xs y Q h
  (try simp only [P_law_bottom, P_law0, P_Vector_rmul] at h)
  (first | (exact h.elim) | (obtain ⟨_, _, _, _, _, _, _, _, rfl, _⟩ := h; rfl) | (obtain ⟨_, _, _, _, _, _, _, rfl, _⟩ := h; rfl) | (obtain ⟨_, _, _, _, _, _, rfl, _⟩ := h; rfl) | (obtain ⟨_, _, _, _, _, rfl, _⟩ := h; rfl) | (obtain ⟨_, _, _, _, rfl, _⟩ := h; rfl) | (obtain ⟨_, _, _, rfl, _⟩ := h; rfl) | (obtain ⟨_, _, rfl, _⟩ := h; rfl) | (obtain ⟨_, rfl, _⟩ := h; rfl) | (obtain ⟨rfl, _⟩ := h; rfl))
theorem len_law_wide (a : Ad) : ∀ xs y Q, P_law_wide a xs y Q → xs.length = 2 := by
  intro xs y Q h
  (try simp only [P_law_wide, P_law0, P_Vector_rmul] at h)
  (first | (exact h.elim) | (obtain ⟨_, _, _, _, _, _, _, _, rfl, _⟩ := h; rfl) | (obtain ⟨_, _, _, _, _, _, _, rfl, _⟩ := h; rfl) | (obtain ⟨_, _, _, _, _, _, rfl, _⟩ := h; rfl) | (obtain ⟨_, _, _, _, _, rfl, _⟩ := h; rfl) | (obtain ⟨_, _, _, _, rfl, _⟩ := h; rfl) | (obtain ⟨_, _, _, rfl, _⟩ := h; rfl) | (obtain ⟨_, _, rfl, _⟩ := h; rfl) | (obtain ⟨_, rfl, _⟩ := h; rfl) | (obtain ⟨rfl, _⟩ := h; rfl))
theorem len_law_is_integer (a : Ad) : ∀ xs y Q, P_law_is_integer a xs y Q → xs.length = 1 := by
  intro xs y Q h
  (try simp only [P_law_is_integer, P_law0, P_Vector_rmul] at h)
  (first | (exact h.elim) | (obtain ⟨_, _, _, _, _, _, _, _, rfl, _⟩ := h; rfl) | (obtain ⟨_, _, _, _, _, _, _, rfl, _⟩ := h; rfl) | (obtain ⟨_, _, _, _, _, _, rfl, _⟩ := h; rfl) | (obtain ⟨_, _, _, _, _, rfl, _⟩ := h; rfl) | (obtain ⟨_, _, _, _, rfl, _⟩ := h; rfl) | (obtain ⟨_, _, _, rfl, _⟩ := h; rfl) | (obtain ⟨_, _, rfl, _⟩ := h; rfl) | (obtain ⟨_, rfl, _⟩ := h; rfl) | (obtain ⟨rfl, _⟩ := h; rfl))
theorem len_law_gcd (a : Ad) : ∀ xs y Q, P_law_gcd a xs y Q → xs.length = 2 := by
  intro xs y Q h
  (try simp only [P_law_gcd, P_law0, P_Vector_rmul] at h)
  (first | (exact h.elim) | (obtain ⟨_, _, _, _, _, _, _, _, rfl, _⟩ := h; rfl) | (obtain ⟨_, _, _, _, _, _, _, rfl, _⟩ := h; rfl) | (obtain ⟨_, _, _, _, _, _, rfl, _⟩ := h; rfl) | (obtain ⟨_, _, _, _, _, rfl, _⟩ := h; rfl) | (obtain ⟨_, _, _, _, rfl, _⟩ := h; rfl) | (obtain ⟨_, _, _, rfl, _⟩ := h; rfl) | (obtain ⟨_, _, rfl, _⟩ := h; rfl) | (obtain ⟨_, rfl, _⟩ := h; rfl) | (obtain ⟨rfl, _⟩ := h; rfl))
theorem len_law_ratio (a : Ad) : ∀ xs y Q, P_law_ratio a xs y Q → xs.length = 2 := by
  intro xs y Q h
  (try simp only [P_law_ratio, P_law0, P_Vector_rmul] at h)
  (first | (exact h.elim) | (obtain ⟨_, _, _, _, _, _, _, _, rfl, _⟩ := h; rfl) | (obtain ⟨_, _, _, _, _, _, _, rfl, _⟩ := h; rfl) | (obtain ⟨_, _, _, _, _, _, rfl, _⟩ := h; rfl) | (obtain ⟨_, _, _, _, _, rfl, _⟩ := h; rfl) | (obtain ⟨_, _, _, _, rfl, _⟩ := h; rfl) | (obtain ⟨_, _, _, rfl, _⟩ := h; rfl) | (obtain ⟨_, _, rfl, _⟩ := h; rfl) | (obtain ⟨_, rfl, _⟩ := h; rfl) | (obtain ⟨rfl, _⟩ := h; rfl))
theorem len_law_low (a : Ad) : ∀ xs y Q, P_law_low a xs y Q → xs.length = 2 := by
  intro xs y Q h
  (try simp only [P_law_low, P_law0, P_Vector_rmul] at h)
  (first | (exact h.elim) | (obtain ⟨_, _, _, _, _, _, _, _, rfl, _⟩ := h; rfl) | (obtain ⟨_, _, _, _, _, _, _, rfl, _⟩ := h; rfl) | (obtain ⟨_, _, _, _, _, _, rfl, _⟩ := h; rfl) | (obtain ⟨_, _, _, _, _, rfl, _⟩ := h; rfl) | (obtain ⟨_, _, _, _, rfl, _⟩ := h; rfl) | (obtain ⟨_, _, _, rfl, _⟩ := h; rfl) | (obtain ⟨_, _, rfl, _⟩ := h; rfl) | (obtain ⟨_, rfl, _⟩ := h; rfl) | (obtain ⟨rfl, _⟩ := h; rfl))
theorem len_law_thing (a : Ad) : ∀ xs y Q, P_law_thing a xs y Q → xs.length = 3 := by
  intro xs y Q h
  (try simp only [P_law_thing, P_law0, P_Vector_rmul] at h)
  (first | (exact h.elim) | (obtain ⟨_, _, _, _, _, _, _, _, rfl, _⟩ := h; rfl) | (obtain ⟨_, _, _, _, _, _, _, rfl, _⟩ := h; rfl) | (obtain ⟨_, _, _, _, _, _, rfl, _⟩ := h; rfl) | (obtain ⟨_, _, _, _, _, rfl, _⟩ := h; rfl) | (obtain ⟨_, _, _, _, rfl, _⟩ := h; rfl) | (obtain ⟨_, _, _, rfl, _⟩ := h; rfl) | (obtain ⟨_, _, rfl, _⟩ := h; rfl) | (obtain ⟨_, rfl, _⟩ := h; rfl) | (obtain ⟨rfl, _⟩ := h; rfl))
theorem len_law_factors (a : Ad) : ∀ xs y Q, P_law_factors a xs y Q → xs.length = 2 := by
  intro xs y Q h
  (try simp only [P_law_factors, P_law0, P_Vector_rmul] at h)
  (first | (exact h.elim) | (obtain ⟨_, _, _, _, _, _, _, _, rfl, _⟩ := h; rfl) | (obtain ⟨_, _, _, _, _, _, _, rfl, _⟩ := h; rfl) | (obtain ⟨_, _, _, _, _, _, rfl, _⟩ := h; rfl) | (obtain ⟨_, _, _, _, _, rfl, _⟩ := h; rfl) | (obtain ⟨_, _, _, _, rfl, _⟩ := h; rfl) | (obtain ⟨_, _, _, rfl, _⟩ := h; rfl) | (obtain ⟨_, _, rfl, _⟩ := h; rfl) | (obtain ⟨_, rfl, _⟩ := h; rfl) | (obtain ⟨rfl, _⟩ := h; rfl))
theorem len_law_is_ratio (a : Ad) : ∀ xs y Q, P_law_is_ratio a xs y Q → xs.length = 2 := by
  intro xs y Q h
  (try simp only [P_law_is_ratio, P_law0, P_Vector_rmul] at h)
  (first | (exact h.elim) | (obtain ⟨_, _, _, _, _, _, _, _, rfl, _⟩ := h; rfl) | (obtain ⟨_, _, _, _, _, _, _, rfl, _⟩ := h; rfl) | (obtain ⟨_, _, _, _, _, _, rfl, _⟩ := h; rfl) | (obtain ⟨_, _, _, _, _, rfl, _⟩ := h; rfl) | (obtain ⟨_, _, _, _, rfl, _⟩ := h; rfl) | (obtain ⟨_, _, _, rfl, _⟩ := h; rfl) | (obtain ⟨_, _, rfl, _⟩ := h; rfl) | (obtain ⟨_, rfl, _⟩ := h; rfl) | (obtain ⟨rfl, _⟩ := h; rfl))
theorem len_law_is (a : Ad) : ∀ xs y Q, P_law_is a xs y Q → xs.length = 2 := by
  intro xs y Q h
  (try simp only [P_law_is, P_law0, P_Vector_rmul] at h)
  (first | (exact h.elim) | (obtain ⟨_, _, _, _, _, _, _, _, rfl, _⟩ := h; rfl) | (obtain ⟨_, _, _, _, _, _, _, rfl, _⟩ := h; rfl) | (obtain ⟨_, _, _, _, _, _, rfl, _⟩ := h; rfl) | (obtain ⟨_, _, _, _, _, rfl, _⟩ := h; rfl) | (obtain ⟨_, _, _, _, rfl, _⟩ := h; rfl) | (obtain ⟨_, _, _, rfl, _⟩ := h; rfl) | (obtain ⟨_, _, rfl, _⟩ := h; rfl) | (obtain ⟨_, rfl, _⟩ := h; rfl) | (obtain ⟨rfl, _⟩ := h; rfl))
theorem len_law_truth (a : Ad) : ∀ xs y Q, P_law_truth a xs y Q → xs.length = 2 := by
  intro xs y Q h
  (try simp only [P_law_truth, P_law0, P_Vector_rmul] at h)
  (first | (exact h.elim) | (obtain ⟨_, _, _, _, _, _, _, _, rfl, _⟩ := h; rfl) | (obtain ⟨_, _, _, _, _, _, _, rfl, _⟩ := h; rfl) | (obtain ⟨_, _, _, _, _, _, rfl, _⟩ := h; rfl) | (obtain ⟨_, _, _, _, _, rfl, _⟩ := h; rfl) | (obtain ⟨_, _, _, _, rfl, _⟩ := h; rfl) | (obtain ⟨_, _, _, rfl, _⟩ := h; rfl) | (obtain ⟨_, _, rfl, _⟩ := h; rfl) | (obtain ⟨_, rfl, _⟩ := h; rfl) | (obtain ⟨rfl, _⟩ := h; rfl))
theorem len_law_made (a : Ad) : ∀ xs y Q, P_law_made a xs y Q → xs.length = 1 := by
  intro xs y Q h
  (try simp only [P_law_made, P_law0, P_Vector_rmul] at h)
  (first | (exact h.elim) | (obtain ⟨_, _, _, _, _, _, _, _, rfl, _⟩ := h; rfl) | (obtain ⟨_, _, _, _, _, _, _, rfl, _⟩ := h; rfl) | (obtain ⟨_, _, _, _, _, _, rfl, _⟩ := h; rfl) | (obtain ⟨_, _, _, _, _, rfl, _⟩ := h; rfl) | (obtain ⟨_, _, _, _, rfl, _⟩ := h; rfl) | (obtain ⟨_, _, _, rfl, _⟩ := h; rfl) | (obtain ⟨_, _, rfl, _⟩ := h; rfl) | (obtain ⟨_, rfl, _⟩ := h; rfl) | (obtain ⟨rfl, _⟩ := h; rfl))
theorem len_law_alone (a : Ad) : ∀ xs y Q, P_law_alone a xs y Q → xs.length = 4 := by
  intro xs y Q h
  (try simp only [P_law_alone, P_law0, P_Vector_rmul] at h)
  (first | (exact h.elim) | (obtain ⟨_, _, _, _, _, _, _, _, rfl, _⟩ := h; rfl) | (obtain ⟨_, _, _, _, _, _, _, rfl, _⟩ := h; rfl) | (obtain ⟨_, _, _, _, _, _, rfl, _⟩ := h; rfl) | (obtain ⟨_, _, _, _, _, rfl, _⟩ := h; rfl) | (obtain ⟨_, _, _, _, rfl, _⟩ := h; rfl) | (obtain ⟨_, _, _, rfl, _⟩ := h; rfl) | (obtain ⟨_, _, rfl, _⟩ := h; rfl) | (obtain ⟨_, rfl, _⟩ := h; rfl) | (obtain ⟨rfl, _⟩ := h; rfl))
theorem len_law_asked (a : Ad) : ∀ xs y Q, P_law_asked a xs y Q → xs.length = 3 := by
  intro xs y Q h
  (try simp only [P_law_asked, P_law0, P_Vector_rmul] at h)
  (first | (exact h.elim) | (obtain ⟨_, _, _, _, _, _, _, _, rfl, _⟩ := h; rfl) | (obtain ⟨_, _, _, _, _, _, _, rfl, _⟩ := h; rfl) | (obtain ⟨_, _, _, _, _, _, rfl, _⟩ := h; rfl) | (obtain ⟨_, _, _, _, _, rfl, _⟩ := h; rfl) | (obtain ⟨_, _, _, _, rfl, _⟩ := h; rfl) | (obtain ⟨_, _, _, rfl, _⟩ := h; rfl) | (obtain ⟨_, _, rfl, _⟩ := h; rfl) | (obtain ⟨_, rfl, _⟩ := h; rfl) | (obtain ⟨rfl, _⟩ := h; rfl))
theorem len_law_pair (a : Ad) : ∀ xs y Q, P_law_pair a xs y Q → xs.length = 4 := by
  intro xs y Q h
  (try simp only [P_law_pair, P_law0, P_Vector_rmul] at h)
  (first | (exact h.elim) | (obtain ⟨_, _, _, _, _, _, _, _, rfl, _⟩ := h; rfl) | (obtain ⟨_, _, _, _, _, _, _, rfl, _⟩ := h; rfl) | (obtain ⟨_, _, _, _, _, _, rfl, _⟩ := h; rfl) | (obtain ⟨_, _, _, _, _, rfl, _⟩ := h; rfl) | (obtain ⟨_, _, _, _, rfl, _⟩ := h; rfl) | (obtain ⟨_, _, _, rfl, _⟩ := h; rfl) | (obtain ⟨_, _, rfl, _⟩ := h; rfl) | (obtain ⟨_, rfl, _⟩ := h; rfl) | (obtain ⟨rfl, _⟩ := h; rfl))
theorem len_law_refusal (a : Ad) : ∀ xs y Q, P_law_refusal a xs y Q → xs.length = 3 := by
  intro xs y Q h
  (try simp only [P_law_refusal, P_law0, P_Vector_rmul] at h)
  (first | (exact h.elim) | (obtain ⟨_, _, _, _, _, _, _, _, rfl, _⟩ := h; rfl) | (obtain ⟨_, _, _, _, _, _, _, rfl, _⟩ := h; rfl) | (obtain ⟨_, _, _, _, _, _, rfl, _⟩ := h; rfl) | (obtain ⟨_, _, _, _, _, rfl, _⟩ := h; rfl) | (obtain ⟨_, _, _, _, rfl, _⟩ := h; rfl) | (obtain ⟨_, _, _, rfl, _⟩ := h; rfl) | (obtain ⟨_, _, rfl, _⟩ := h; rfl) | (obtain ⟨_, rfl, _⟩ := h; rfl) | (obtain ⟨rfl, _⟩ := h; rfl))
theorem len_law_refusals (a : Ad) : ∀ xs y Q, P_law_refusals a xs y Q → xs.length = 1 := by
  intro xs y Q h
  (try simp only [P_law_refusals, P_law0, P_Vector_rmul] at h)
  (first | (exact h.elim) | (obtain ⟨_, _, _, _, _, _, _, _, rfl, _⟩ := h; rfl) | (obtain ⟨_, _, _, _, _, _, _, rfl, _⟩ := h; rfl) | (obtain ⟨_, _, _, _, _, _, rfl, _⟩ := h; rfl) | (obtain ⟨_, _, _, _, _, rfl, _⟩ := h; rfl) | (obtain ⟨_, _, _, _, rfl, _⟩ := h; rfl) | (obtain ⟨_, _, _, rfl, _⟩ := h; rfl) | (obtain ⟨_, _, rfl, _⟩ := h; rfl) | (obtain ⟨_, rfl, _⟩ := h; rfl) | (obtain ⟨rfl, _⟩ := h; rfl))
theorem len_law_made_others (a : Ad) : ∀ xs y Q, P_law_made_others a xs y Q → xs.length = 3 := by
  intro xs y Q h
  (try simp only [P_law_made_others, P_law0, P_Vector_rmul] at h)
  (first | (exact h.elim) | (obtain ⟨_, _, _, _, _, _, _, _, rfl, _⟩ := h; rfl) | (obtain ⟨_, _, _, _, _, _, _, rfl, _⟩ := h; rfl) | (obtain ⟨_, _, _, _, _, _, rfl, _⟩ := h; rfl) | (obtain ⟨_, _, _, _, _, rfl, _⟩ := h; rfl) | (obtain ⟨_, _, _, _, rfl, _⟩ := h; rfl) | (obtain ⟨_, _, _, rfl, _⟩ := h; rfl) | (obtain ⟨_, _, rfl, _⟩ := h; rfl) | (obtain ⟨_, rfl, _⟩ := h; rfl) | (obtain ⟨rfl, _⟩ := h; rfl))
theorem len_law (a : Ad) : ∀ xs y Q, P_law a xs y Q → xs.length = 1 := by
  intro xs y Q h
  (try simp only [P_law, P_law0, P_Vector_rmul] at h)
  (first | (exact h.elim) | (obtain ⟨_, _, _, _, _, _, _, _, rfl, _⟩ := h; rfl) | (obtain ⟨_, _, _, _, _, _, _, rfl, _⟩ := h; rfl) | (obtain ⟨_, _, _, _, _, _, rfl, _⟩ := h; rfl) | (obtain ⟨_, _, _, _, _, rfl, _⟩ := h; rfl) | (obtain ⟨_, _, _, _, rfl, _⟩ := h; rfl) | (obtain ⟨_, _, _, rfl, _⟩ := h; rfl) | (obtain ⟨_, _, rfl, _⟩ := h; rfl) | (obtain ⟨_, rfl, _⟩ := h; rfl) | (obtain ⟨rfl, _⟩ := h; rfl))
section
variable {P : Program} {w : World} {K : PySem.W.Frag} {mg : Str → Option Value} {base : Heap} {a : Ad} {d : Fd}
theorem xf_ZeroBottom : FldR K xv_ZeroBottom xp_ZeroBottom := by
  intro G xs vs r
  unfold xv_ZeroBottom xp_ZeroBottom
  refine .cons (.str _) ?_
  exact .nil
theorem ok_xZeroBottom (T : Txt K mg a) (S : Fs K a d) : FnOk P w K mg base (L2.CX P w) 1 a.f_xZeroBottom d.d_xZeroBottom ["self"] (spX a.C_ZeroBottom 0 xv_ZeroBottom) := by
  refine FunD.ok (k := 0) S.XF_ZeroBottom sc_xZeroBottom (fun vs H Q E h => ?_) (fun cdv A outer s H vs Q E hr h => ⟨_, (pss_one (ps_ost (pv 0) pe_str)), ?_⟩)
  · obtain ⟨x, ws, rfl, hn, _⟩ := h
    show ws.length + 1 = _
    rw [hn]
    all_goals rfl
  · obtain ⟨x, ws, rfl, hn, hx, k⟩ := h
    cases ws with
    | cons _ _ => cases hn
    | nil =>
      refine ⟨_, rfl, x, a.C_ZeroBottom, rfl, T.ox_ZeroBottom, T.na_ZeroBottom_word, .inl ⟨hx, fun dx hd hne => ?_⟩⟩
      exact k dx _ hd hne upd_same (x_at2 hne) (fun b h1 h2 => by rw [upd_ne h1, upd_ne h2])
theorem xf_Empty : FldR K xv_Empty xp_Empty := by
  intro G xs vs r
  unfold xv_Empty xp_Empty
  refine .cons (.str _) ?_
  exact .nil
theorem ok_xEmpty (T : Txt K mg a) (S : Fs K a d) : FnOk P w K mg base (L2.CX P w) 1 a.f_xEmpty d.d_xEmpty ["self"] (spX a.C_Empty 0 xv_Empty) := by
  refine FunD.ok (k := 0) S.XF_Empty sc_xEmpty (fun vs H Q E h => ?_) (fun cdv A outer s H vs Q E hr h => ⟨_, (pss_one (ps_ost (pv 0) pe_str)), ?_⟩)
  · obtain ⟨x, ws, rfl, hn, _⟩ := h
    show ws.length + 1 = _
    rw [hn]
    all_goals rfl
  · obtain ⟨x, ws, rfl, hn, hx, k⟩ := h
    cases ws with
    | cons _ _ => cases hn
    | nil =>
      refine ⟨_, rfl, x, a.C_Empty, rfl, T.ox_Empty, T.na_Empty_word, .inl ⟨hx, fun dx hd hne => ?_⟩⟩
      exact k dx _ hd hne upd_same (x_at2 hne) (fun b h1 h2 => by rw [upd_ne h1, upd_ne h2])
theorem xf_SizeMismatch : FldR K xv_SizeMismatch xp_SizeMismatch := by
  intro G xs vs r
  unfold xv_SizeMismatch xp_SizeMismatch
  refine .cons (.str _) ?_
  refine .cons (reps_getD r _) ?_
  refine .cons (reps_getD r _) ?_
  exact .nil
theorem ok_xSizeMismatch (T : Txt K mg a) (S : Fs K a d) : FnOk P w K mg base (L2.CX P w) 1 a.f_xSizeMismatch d.d_xSizeMismatch ["self", "left", "right"] (spX a.C_SizeMismatch 2 xv_SizeMismatch) := by
  refine FunD.ok (k := 0) S.XF_SizeMismatch sc_xSizeMismatch (fun vs H Q E h => ?_) (fun cdv A outer s H vs Q E hr h => ⟨_, (pss_cons (ps_ost (pv 0) (pv 1)) (pss_cons (ps_ost (pv 0) (pv 2)) (pss_one (ps_ost (pv 0) pe_str)))), ?_⟩)
  · obtain ⟨x, ws, rfl, hn, _⟩ := h
    show ws.length + 1 = _
    rw [hn]
    all_goals rfl
  · obtain ⟨x, ws, rfl, hn, hx, k⟩ := h
    match ws, hn with
    | [w0, w1], _ =>
      refine ⟨_, rfl, _, rfl, x, a.C_SizeMismatch, rfl, T.ox_SizeMismatch, T.na_SizeMismatch_left, .inl ⟨hx, fun dx hd hne => ?_⟩⟩
      refine ⟨_, rfl, _, rfl, x, a.C_SizeMismatch, rfl, T.ox_SizeMismatch, T.na_SizeMismatch_right, .inr ⟨dx, _, x_at1, x_at2 hne, Nat.le_of_ble_eq_true rfl, ?_⟩⟩
      refine ⟨_, rfl, x, a.C_SizeMismatch, rfl, T.ox_SizeMismatch, T.na_SizeMismatch_word, .inr ⟨dx, _, x_at3 hne x_at1, upd_same, Nat.le_of_ble_eq_true rfl, ?_⟩⟩
      exact k dx _ hd hne (x_at3 hne (x_at3 hne x_at1)) upd_same (fun b h1 h2 => by rw [upd_ne h2, upd_ne h2, upd_ne h1, upd_ne h2])

theorem ok_shared_part (T : Txt K mg a) (S : Fs K a d) : FnOk P w K mg base (L2.CX P w) 1 a.f_shared_part d.d_shared_part ["tops", "bottom"] (spP K (P_shared_part a)) := by
  refine fa_q (k := 0) S.F_shared_part sc_shared_part (len_shared_part a) (fun cdv A outer s H E hr =>
    (jss_cons (js_set 2 sc_shared_part.nd (je_abs T.b_abs (ja_cons (je_var 1) ja_nil)))
      (jss_cut (js_for 3 (passes_of rfl) rfl sc_shared_part.nd (ji_any (je_var 0))
        (jss_cons (js_if (jt_eq (je_var 2) je_int) (jss_one js_brk) jss_nil)
      (jss_one (js_set 2 sc_shared_part.nd (je_gcd T.m_gcd (ja_cons (je_var 2) (ja_cons (je_var 3) ja_nil)))))))
      (jss_one (js_ret (je_if (jt_gt (je_var 1) je_int) (je_var 2) (je_neg (je_var 2)))))))) ?pure
  case pure =>
    rintro xs y Q ⟨ts, b, s, rfl, hs, h⟩
    simp (maxSteps := 3000000) (disch := decide) only [↓psE, psO, forall_const, ↓iAdd, ↓iSub, ↓iMul, ↓iDiv, ↓iMod, ↓iPow, ↓iLt, ↓iLe, ↓iGt, ↓iGe, T.ne_Ratio_Vector, T.ne_Ratio_Poly, T.ne_Vector_Ratio, T.ne_Vector_Poly, T.ne_Poly_Ratio, T.ne_Poly_Vector, T.ne_Empty_ZeroBottom, T.ne_ZeroBottom_Empty, ↓reduceIte, Nat.reduceLeDiff, Nat.reduceLT, reduceCtorEq, isiInt, isiBool, isiStr, isiC, isiTup, isiLst, isiOr, nfC, inL, startP, startI, setAll, List.replicate, Nat.reduceSub, Nat.reduceAdd]
    refine ⟨fun ρ => ∃ v, ρ = [some (.pv s), some (.pv (.int b)), some (.pv (.int (sharedN ts (if b < 0 then -b else b)))), v], ?_, ?_⟩
    · have key : ∀ (us : List Int) (p : Int) (v : Option Sl) (D : QD), (∀ v', D.nx [some (.pv s), some (.pv (.int b)), some (.pv (.int (sharedN us p))), v']) →
          qLoop 3 (qSeq (qIfS (qB (qOp (qEq false) (qVar 2) (qC (PV.int 1)))) qBreak qNext) (qSet 2 (qCB cGcd (qCons (qVar 2) (qCons (qVar 3) qNil))))) D (us.map PV.int) [some (.pv s), some (.pv (.int b)), some (.pv (.int p)), v] := by
        intro us
        induction us with
        | nil => intro p v D hD; exact hD v
        | cons u us ih =>
          intro p v D hD
          show qSeq _ _ _ _
          simp (maxSteps := 3000000) (disch := decide) only [↓psE, psO, forall_const, ↓iAdd, ↓iSub, ↓iMul, ↓iDiv, ↓iMod, ↓iPow, ↓iLt, ↓iLe, ↓iGt, ↓iGe, T.ne_Ratio_Vector, T.ne_Ratio_Poly, T.ne_Vector_Ratio, T.ne_Vector_Poly, T.ne_Poly_Ratio, T.ne_Poly_Vector, T.ne_Empty_ZeroBottom, T.ne_ZeroBottom_Empty, ↓reduceIte, Nat.reduceLeDiff, Nat.reduceLT, reduceCtorEq, isiInt, isiBool, isiStr, isiC, isiTup, isiLst, isiOr, nfC, inL, startP, startI, setAll, List.replicate, Nat.reduceSub, Nat.reduceAdd]
          split
          · rename_i hp
            have := hD (some (.pv (.int u)))
            rw [show sharedN (u :: us) p = p from if_pos hp] at this
            exact this
          · rename_i hp
            refine ih _ _ _ fun v' => ?_
            have := hD v'
            rw [show sharedN (u :: us) p = sharedN us (gcdZ p u) from if_neg hp] at this
            exact this
      have fin := key ts (if b < 0 then -b else b) none
      rcases hs with rfl | rfl
      · exact .inl (fin _ fun v' => ⟨v', rfl⟩)
      · exact .inr (fin _ fun v' => ⟨v', rfl⟩)
    · rintro ρ' ⟨v, rfl⟩
      simp (maxSteps := 3000000) (disch := decide) only [↓psE, psO, forall_const, ↓iAdd, ↓iSub, ↓iMul, ↓iDiv, ↓iMod, ↓iPow, ↓iLt, ↓iLe, ↓iGt, ↓iGe, T.ne_Ratio_Vector, T.ne_Ratio_Poly, T.ne_Vector_Ratio, T.ne_Vector_Poly, T.ne_Poly_Ratio, T.ne_Poly_Vector, T.ne_Empty_ZeroBottom, T.ne_ZeroBottom_Empty, ↓reduceIte, Nat.reduceLeDiff, Nat.reduceLT, reduceCtorEq, isiInt, isiBool, isiStr, isiC, isiTup, isiLst, isiOr, nfC, inL, startP, startI, setAll, List.replicate, Nat.reduceSub, Nat.reduceAdd]
      unfold shared at h
      split
      · rename_i hb
        rw [if_pos hb] at h
        exact h
      · rename_i hb
        rw [if_neg hb] at h
        exact h

theorem ok_Ratio_init (T : Txt K mg a) (S : Fs K a d) : FnOk P w K mg base (L2.CX P w) 3 a.f_Ratio_init d.d_Ratio_init ["self", "top", "bottom"] (spI K a.C_Ratio (I_Ratio_init a)) := by
  refine fa_qI (k := 2) S.F_Ratio_init sc_Ratio_init (len_Ratio_init a) (fun cdv A outer s H E hr =>
    (jss_cons (js_if (jt_eq (je_var 2) je_int) (jss_one (js_raise rfl (takes_of rfl rfl rfl rfl) (pmk_x0 T.ox_ZeroBottom T.xi_ZeroBottom T.xt_ZeroBottom (ok_xZeroBottom T S) xf_ZeroBottom (hr.mono (by decide)) S.XB_ZeroBottom T.mg_ZeroBottom))) jss_nil)
      (jss_cons (js_set 3 sc_Ratio_init.nd (je_call (ok_shared_part T S) (hr.mono (by decide)) T.mg_shared_part S.F_shared_part.kp S.B_shared_part .nil (fun _ => .nil) (tkOf (takes_of rfl rfl rfl rfl)) (ja_cons (je_lst (ja_cons (je_var 1) ja_nil)) (ja_cons (je_var 2) ja_nil))))
      (jss_cons (js_fld 0 T.cl_Ratio T.na_Ratio_top (je_div (je_var 1) (je_var 3)))
      (jss_one (js_fld 0 T.cl_Ratio T.na_Ratio_bottom (je_div (je_var 2) (je_var 3)))))))) ?pure
  case pure =>
    rintro ad xs y Q ⟨t, b, rfl, h0, h1⟩
    simp (maxSteps := 3000000) (disch := decide) only [↓psE, psO, forall_const, ↓iAdd, ↓iSub, ↓iMul, ↓iDiv, ↓iMod, ↓iPow, ↓iLt, ↓iLe, ↓iGt, ↓iGe, T.ne_Ratio_Vector, T.ne_Ratio_Poly, T.ne_Vector_Ratio, T.ne_Vector_Poly, T.ne_Poly_Ratio, T.ne_Poly_Vector, T.ne_Empty_ZeroBottom, T.ne_ZeroBottom_Empty, ↓reduceIte, Nat.reduceLeDiff, Nat.reduceLT, reduceCtorEq, isiInt, isiBool, isiStr, isiC, isiTup, isiLst, isiOr, nfC, inL, startP, startI, setAll, List.replicate, Nat.reduceSub, Nat.reduceAdd]
    split
    · rename_i hb
      exact h0 hb
    · rename_i hb
      obtain ⟨hs, h1⟩ := h1 hb
      refine ⟨[t], b, _, rfl, .inl rfl, ?_⟩
      simp (maxSteps := 3000000) (disch := decide) only [↓psE, psO, forall_const, ↓iAdd, ↓iSub, ↓iMul, ↓iDiv, ↓iMod, ↓iPow, ↓iLt, ↓iLe, ↓iGt, ↓iGe, T.ne_Ratio_Vector, T.ne_Ratio_Poly, T.ne_Vector_Ratio, T.ne_Vector_Poly, T.ne_Poly_Ratio, T.ne_Poly_Vector, T.ne_Empty_ZeroBottom, T.ne_ZeroBottom_Empty, ↓reduceIte, Nat.reduceLeDiff, Nat.reduceLT, reduceCtorEq, isiInt, isiBool, isiStr, isiC, isiTup, isiLst, isiOr, nfC, inL, startP, startI, setAll, List.replicate, Nat.reduceSub, Nat.reduceAdd]
      exact ⟨divW (sh_sz hs hb) (sh_ne hb) (by decide), divW (sh_sz hs hb) (sh_ne hb) (by decide), h1⟩

theorem ok_Ratio_mul (T : Txt K mg a) (S : Fs K a d) : FnOk P w K mg base (L2.CX P w) 5 a.f_Ratio_mul d.d_Ratio_mul ["self", "other"] (spP K (P_Ratio_mul a)) := by
  refine fa_q (k := 4) S.F_Ratio_mul sc_Ratio_mul (len_Ratio_mul a) (fun cdv A outer s H E hr =>
    (jss_cons (js_if (jt_not (jt_val (je_isiC (kit_c (os := [a.C_Vector, a.C_Poly]) T.is_Ratio T.kc_Ratio T.ko_Ratio) T.b_isinstance (je_var 1) T.mg_Ratio))) (jss_one js_never) jss_nil)
      (jss_one (js_ret (je_make T.mk_Ratio (ok_Ratio_init T S) (hr.mono (by decide)) T.mg_Ratio S.B_Ratio_init .nil (fun _ => .nil) (tkOf (takes_of rfl rfl rfl rfl)) (ja_cons (je_mul (je_fld (je_var 0) T.cl_Ratio T.na_Ratio_top) (je_fld (je_var 1) T.cl_Ratio T.na_Ratio_top)) (ja_cons (je_mul (je_fld (je_var 0) T.cl_Ratio T.na_Ratio_bottom) (je_fld (je_var 1) T.cl_Ratio T.na_Ratio_bottom)) ja_nil))))))) ?pure
  case pure =>
    rintro xs y Q ⟨t, b, u, c, rfl, ⟨h1, h2, h3, h4⟩, ⟨hb, hc⟩, h⟩
    simp (maxSteps := 3000000) (disch := decide) only [↓psE, psO, forall_const, ↓iAdd, ↓iSub, ↓iMul, ↓iDiv, ↓iMod, ↓iPow, ↓iLt, ↓iLe, ↓iGt, ↓iGe, T.ne_Ratio_Vector, T.ne_Ratio_Poly, T.ne_Vector_Ratio, T.ne_Vector_Poly, T.ne_Poly_Ratio, T.ne_Poly_Vector, T.ne_Empty_ZeroBottom, T.ne_ZeroBottom_Empty, ↓reduceIte, Nat.reduceLeDiff, Nat.reduceLT, reduceCtorEq, isiInt, isiBool, isiStr, isiC, isiTup, isiLst, isiOr, nfC, inL, startP, startI, setAll, List.replicate, Nat.reduceSub, Nat.reduceAdd, rat]
    exact ⟨mulW h1 h3 (by decide), mulW h2 h4 (by decide), _, _, rfl, fun z => absurd z (Int.mul_ne_zero hb hc), fun _ => ⟨(h2.mul h4).mono (by decide), h⟩⟩
theorem ni_Ratio_mul_Vector (T : Txt K mg a) (S : Fs K a d) : NiOk P w K mg base 1 a.f_Ratio_mul d.d_Ratio_mul ["self", "other"] (fun xs => ∃ fs gs, xs = [.obj a.C_Ratio fs, .obj a.C_Vector gs]) := by
  refine ni_q (k := 0) S.F_Ratio_mul sc_Ratio_mul rfl T.b_NotImplemented (fun _ _ => rfl) (fun cdv A outer s H E hr => (jt_not (jt_val (je_isiC (kit_c (os := [a.C_Vector, a.C_Poly]) T.is_Ratio T.kc_Ratio T.ko_Ratio) T.b_isinstance (je_var 1) T.mg_Ratio)))) (fun xs _ h => ?_)
  obtain ⟨fs, gs, rfl⟩ := h
  simp (maxSteps := 3000000) (disch := decide) only [↓psE, psO, forall_const, ↓iAdd, ↓iSub, ↓iMul, ↓iDiv, ↓iMod, ↓iPow, ↓iLt, ↓iLe, ↓iGt, ↓iGe, T.ne_Ratio_Vector, T.ne_Ratio_Poly, T.ne_Vector_Ratio, T.ne_Vector_Poly, T.ne_Poly_Ratio, T.ne_Poly_Vector, T.ne_Empty_ZeroBottom, T.ne_ZeroBottom_Empty, ↓reduceIte, Nat.reduceLeDiff, Nat.reduceLT, reduceCtorEq, isiInt, isiBool, isiStr, isiC, isiTup, isiLst, isiOr, nfC, inL, startP, startI, setAll, List.replicate, Nat.reduceSub, Nat.reduceAdd]

theorem ok_Ratio_eq (T : Txt K mg a) (S : Fs K a d) : FnOk P w K mg base (L2.CX P w) 1 a.f_Ratio_eq d.d_Ratio_eq ["self", "other"] (spP K (P_Ratio_eq a)) := by
  refine fa_q (k := 0) S.F_Ratio_eq sc_Ratio_eq (len_Ratio_eq a) (fun cdv A outer s H E hr =>
    (jss_one (js_ret (je_and (je_isiC (kit_c (os := [a.C_Vector, a.C_Poly]) T.is_Ratio T.kc_Ratio T.ko_Ratio) T.b_isinstance (je_var 1) T.mg_Ratio) (je_and (je_eq (je_fld (je_var 0) T.cl_Ratio T.na_Ratio_top) (je_fld (je_var 1) T.cl_Ratio T.na_Ratio_top)) (je_one (je_eq (je_fld (je_var 0) T.cl_Ratio T.na_Ratio_bottom) (je_fld (je_var 1) T.cl_Ratio T.na_Ratio_bottom)))))))) ?pure
  case pure =>
    rintro xs y Q ⟨t, b, z, rfl, h⟩
    rcases h with ⟨u, c, rfl, h⟩ | ⟨hz, h⟩
    · simp (maxSteps := 3000000) (disch := decide) only [↓psE, psO, forall_const, ↓iAdd, ↓iSub, ↓iMul, ↓iDiv, ↓iMod, ↓iPow, ↓iLt, ↓iLe, ↓iGt, ↓iGe, T.ne_Ratio_Vector, T.ne_Ratio_Poly, T.ne_Vector_Ratio, T.ne_Vector_Poly, T.ne_Poly_Ratio, T.ne_Poly_Vector, T.ne_Empty_ZeroBottom, T.ne_ZeroBottom_Empty, ↓reduceIte, Nat.reduceLeDiff, Nat.reduceLT, reduceCtorEq, isiInt, isiBool, isiStr, isiC, isiTup, isiLst, isiOr, nfC, inL, startP, startI, setAll, List.replicate, Nat.reduceSub, Nat.reduceAdd, rat]
      split
      · rename_i e
        subst e
        simpa using h
      · rename_i e
        have : (t == u) = false := beq_eq_false_iff_ne.mpr e
        rw [this] at h
        exact h
    · show (match isiC a.C_Ratio [a.C_Vector, a.C_Poly] z with
        | some b => _
        | none => False : Prop)
      rw [hz]
      exact h

theorem ok_common_bottom (T : Txt K mg a) (S : Fs K a d) : FnOk P w K mg base (L2.CX P w) 1 a.f_common_bottom d.d_common_bottom ["first", "second"] (spP K (P_common_bottom a)) := by
  refine fa_q (k := 0) S.F_common_bottom sc_common_bottom (len_common_bottom a) (fun cdv A outer s H E hr =>
    (jss_cons (js_set 2 sc_common_bottom.nd (je_lcm T.m_lcm (ja_cons (je_var 0) (ja_cons (je_var 1) ja_nil))))
      (jss_one (js_ret (je_tup (ja_cons (je_var 2) (ja_cons (je_div (je_var 2) (je_var 0)) (ja_cons (je_div (je_var 2) (je_var 1)) ja_nil)))))))) ?pure
  case pure =>
    rintro xs y Q ⟨f, g, rfl, ⟨hf, hg, sf, sg⟩, h⟩
    simp (maxSteps := 3000000) (disch := decide) only [↓psE, psO, forall_const, ↓iAdd, ↓iSub, ↓iMul, ↓iDiv, ↓iMod, ↓iPow, ↓iLt, ↓iLe, ↓iGt, ↓iGe, T.ne_Ratio_Vector, T.ne_Ratio_Poly, T.ne_Vector_Ratio, T.ne_Vector_Poly, T.ne_Poly_Ratio, T.ne_Poly_Vector, T.ne_Empty_ZeroBottom, T.ne_ZeroBottom_Empty, ↓reduceIte, Nat.reduceLeDiff, Nat.reduceLT, reduceCtorEq, isiInt, isiBool, isiStr, isiC, isiTup, isiLst, isiOr, nfC, inL, startP, startI, setAll, List.replicate, Nat.reduceSub, Nat.reduceAdd]
    refine ⟨⟨Nat.lt_of_lt_of_le sf (Nat.pow_le_pow_right (by decide) (by decide)), Nat.lt_of_lt_of_le sg (Nat.pow_le_pow_right (by decide) (by decide))⟩, divW sf hf (by decide), divW sg hg (by decide), h⟩

theorem ok_over_one_bottom (T : Txt K mg a) (S : Fs K a d) : FnOk P w K mg base (L2.CX P w) 1 a.f_over_one_bottom d.d_over_one_bottom ["ratios"] (spP K (P_over_one_bottom a)) := by
  refine fa_q (k := 0) S.F_over_one_bottom sc_over_one_bottom (len_over_one_bottom a) (fun cdv A outer s H E hr =>
    (jss_cons (js_set 1 sc_over_one_bottom.nd je_int)
      (jss_cut (js_for 2 (passes_of rfl) rfl sc_over_one_bottom.nd (ji_any (je_var 0))
        (jss_one (js_set 1 sc_over_one_bottom.nd (je_lcm T.m_lcm (ja_cons (je_var 1) (ja_cons (je_fld (je_var 2) T.cl_Ratio T.na_Ratio_bottom) ja_nil))))))
      (jss_one (js_ret (je_tup (ja_cons (je_lc (own := [("ratio", 2)]) (g := (gName 2)) (t := (tName 2)) rfl sc_over_one_bottom.nd (ji_any (je_var 0)) (blkOk_by (N := ["ratios", "bottom", "ratio"]) (sc := defScope s_over_one_bottom) (by decide +kernel)) (tg_name 2) (fun _ _ _ _ _ => pg_name (i := 2) sc_over_one_bottom.nd rfl (Or.inl rfl)) (fun _ _ _ _ _ => jts_nil) (fun _ _ _ _ _ => (je_mul (je_fld (je_var 2) T.cl_Ratio T.na_Ratio_top) (je_div (je_var 1) (je_fld (je_var 2) T.cl_Ratio T.na_Ratio_bottom))))) (ja_cons (je_var 1) ja_nil)))))))) ?pure
  case pure =>
    rintro xs y Q ⟨rs, s, rfl, hs, ⟨h1, h2⟩, h⟩
    have pos : ∀ r ∈ rs, 0 < r.2 := fun r hr => (h2 r hr).1
    have hL : 0 < lcmL rs 1 := lcmL_pos pos (by decide)
    have sz1 : Sz 1 (1 : Int) := by unfold Sz; decide
    have sk : ∀ k, Sz 4000 (lcmL (rs.take k) 1) := fun k => (lcmL_sz (k := 60) (fun r hr => (h2 r (List.mem_of_mem_take hr)).2.1) sz1).mono (by rw [List.length_take]; omega)
    have sL : Sz 4000 (lcmL rs 1) := by have := sk rs.length; rwa [List.take_length] at this
    have loop : ∀ D : QD, (∀ v, D.nx [some (.pv s), some (.pv (.int (lcmL rs 1))), v]) → qLoop 2 (qSet 1 (qCB cLcm (qCons (qVar 1) (qCons (qFld a.C_Ratio "bottom" (qVar 2)) qNil)))) D (rs.map (ratP a.C_Ratio)) [some (.pv s), some (.pv (.int 1)), none] := by
      intro D hD
      refine loopS [1, 2] (fun k vs => ∃ v, vs = [some (.pv (.int (lcmL (rs.take k) 1))), v]) [some (.pv (.int 1)), none] rfl ⟨none, rfl⟩ ?_ ?_
      · rintro k x vs N hx hN ⟨v, rfl⟩
        obtain ⟨r, hr, rfl⟩ := map_at hx
        have hm := List.mem_of_getElem? hr
        simp (maxSteps := 3000000) (disch := decide) only [↓psE, psO, forall_const, ↓iAdd, ↓iSub, ↓iMul, ↓iDiv, ↓iMod, ↓iPow, ↓iLt, ↓iLe, ↓iGt, ↓iGe, T.ne_Ratio_Vector, T.ne_Ratio_Poly, T.ne_Vector_Ratio, T.ne_Vector_Poly, T.ne_Poly_Ratio, T.ne_Poly_Vector, T.ne_Empty_ZeroBottom, T.ne_ZeroBottom_Empty, ↓reduceIte, Nat.reduceLeDiff, Nat.reduceLT, reduceCtorEq, isiInt, isiBool, isiStr, isiC, isiTup, isiLst, isiOr, nfC, inL, startP, startI, setAll, List.replicate, Nat.reduceSub, Nat.reduceAdd, ratP, rat]
        refine ⟨⟨Nat.lt_of_lt_of_le (sk k) (Nat.pow_le_pow_right (by decide) (by decide)), Nat.lt_of_lt_of_le (h2 r hm).2.1 (Nat.pow_le_pow_right (by decide) (by decide))⟩, hN [_, _] ⟨some (.pv (ratP a.C_Ratio r)), ?_⟩⟩
        rw [take_succ hr, lcmL_app]
        rfl
      · rintro vs ⟨v, rfl⟩
        rw [List.length_map, List.take_length]
        exact hD v
    have fin : ∀ v : Option Sl, (rs.map (ratP a.C_Ratio)).length ≤ 10000 ∧ qColl (tName 2) qYes (qOp (qI (fun i j => CMul i j ∨ CMulW i j) fun i j => PV.int (i * j)) (qFld a.C_Ratio "top" (qVar 2)) (qOp (qI CDivG fun i j => PV.int (i.fdiv j)) (qVar 1) (qFld a.C_Ratio "bottom" (qVar 2)))) [some (Sl.pv s), some (Sl.pv (PV.int (lcmL rs 1))), none]
        (fun acc => Q (.tup [.lst acc, .int (lcmL rs 1)])) (rs.map (ratP a.C_Ratio)) [] := by
      intro v
      refine ⟨by rw [List.length_map]; omega, coll_rats a.C_Ratio (fun r => .int (r.1 * ((lcmL rs 1).fdiv r.2))) rs [] (fun r hr R hR => ?_) ?_⟩
      · simp (maxSteps := 3000000) (disch := decide) only [↓psE, psO, forall_const, ↓iAdd, ↓iSub, ↓iMul, ↓iDiv, ↓iMod, ↓iPow, ↓iLt, ↓iLe, ↓iGt, ↓iGe, T.ne_Ratio_Vector, T.ne_Ratio_Poly, T.ne_Vector_Ratio, T.ne_Vector_Poly, T.ne_Poly_Ratio, T.ne_Poly_Vector, T.ne_Empty_ZeroBottom, T.ne_ZeroBottom_Empty, ↓reduceIte, Nat.reduceLeDiff, Nat.reduceLT, reduceCtorEq, isiInt, isiBool, isiStr, isiC, isiTup, isiLst, isiOr, nfC, inL, startP, startI, setAll, List.replicate, Nat.reduceSub, Nat.reduceAdd, ratP, rat]
        obtain ⟨g1, g2, g3⟩ := h2 r hr
        exact ⟨divW g2 (by omega) (by decide), mulW g3 (fdiv_dvd_sz (lcmL_dr r hr) (by omega) sL) (by decide), hR⟩
      · have e : (topsOf rs).map PV.int = rs.map fun r => .int (r.1 * ((lcmL rs 1).fdiv r.2)) := by
          unfold topsOf
          rw [List.map_map]
          rfl
        rw [List.nil_append, ← e]
        exact h
    simp (maxSteps := 3000000) (disch := decide) only [↓psE, psO, forall_const, ↓iAdd, ↓iSub, ↓iMul, ↓iDiv, ↓iMod, ↓iPow, ↓iLt, ↓iLe, ↓iGt, ↓iGe, T.ne_Ratio_Vector, T.ne_Ratio_Poly, T.ne_Vector_Ratio, T.ne_Vector_Poly, T.ne_Poly_Ratio, T.ne_Poly_Vector, T.ne_Empty_ZeroBottom, T.ne_ZeroBottom_Empty, ↓reduceIte, Nat.reduceLeDiff, Nat.reduceLT, reduceCtorEq, isiInt, isiBool, isiStr, isiC, isiTup, isiLst, isiOr, nfC, inL, startP, startI, setAll, List.replicate, Nat.reduceSub, Nat.reduceAdd]
    refine cutS [1, 2] (fun vs => ∃ v, vs = [some (.pv (.int (lcmL rs 1))), v]) ?_ ?_
    · rcases hs with rfl | rfl
      · exact .inl (loop _ fun v => ⟨[_, v], ⟨v, rfl⟩, rfl⟩)
      · exact .inr (loop _ fun v => ⟨[_, v], ⟨v, rfl⟩, rfl⟩)
    · rintro vs ⟨v, rfl⟩
      simp (maxSteps := 3000000) (disch := decide) only [↓psE, psO, forall_const, ↓iAdd, ↓iSub, ↓iMul, ↓iDiv, ↓iMod, ↓iPow, ↓iLt, ↓iLe, ↓iGt, ↓iGe, T.ne_Ratio_Vector, T.ne_Ratio_Poly, T.ne_Vector_Ratio, T.ne_Vector_Poly, T.ne_Poly_Ratio, T.ne_Poly_Vector, T.ne_Empty_ZeroBottom, T.ne_ZeroBottom_Empty, ↓reduceIte, Nat.reduceLeDiff, Nat.reduceLT, reduceCtorEq, isiInt, isiBool, isiStr, isiC, isiTup, isiLst, isiOr, nfC, inL, startP, startI, setAll, List.replicate, Nat.reduceSub, Nat.reduceAdd]
      rcases hs with rfl | rfl
      · exact .inl (fin v)
      · exact .inr (fin v)

theorem ok_weighted_sums (T : Txt K mg a) (S : Fs K a d) : FnOk P w K mg base (L2.CX P w) 1 a.f_weighted_sums d.d_weighted_sums ["first", "left", "second", "right"] (spP K (P_weighted_sums a)) := by
  refine fa_q (k := 0) S.F_weighted_sums sc_weighted_sums (len_weighted_sums a) (fun cdv A outer s H E hr =>
    (jss_one (js_ret (je_lc (own := [("one", 4), ("two", 5)]) (g := (gTup K 2 (gNames [4, 5]))) (t := (tTup [4, 5])) rfl sc_weighted_sums.nd (ji_zip T.b_zip (ja_cons (je_var 1) (ja_cons (je_var 3) ja_nil))) (blkOk_by (N := ["first", "left", "second", "right", "one", "two"]) (sc := defScope s_weighted_sums) (by decide +kernel)) (tg_tup [4, 5]) (fun _ _ _ _ _ => pg_tup rfl (pgs_cons (pg_name (i := 4) sc_weighted_sums.nd rfl (Or.inl rfl)) (pgs_cons (pg_name (i := 5) sc_weighted_sums.nd rfl (Or.inl rfl)) pgs_nil))) (fun _ _ _ _ _ => jts_nil) (fun _ _ _ _ _ => (je_add (je_mul (je_var 0) (je_var 4)) (je_mul (je_var 2) (je_var 5)))))))) ?pure
  case pure =>
    rintro xs y Q ⟨u, v, ls, rs, rfl, ⟨su, sv, sl, sr, hl⟩, h⟩
    simp (maxSteps := 3000000) (disch := decide) only [↓psE, psO, forall_const, ↓iAdd, ↓iSub, ↓iMul, ↓iDiv, ↓iMod, ↓iPow, ↓iLt, ↓iLe, ↓iGt, ↓iGe, T.ne_Ratio_Vector, T.ne_Ratio_Poly, T.ne_Vector_Ratio, T.ne_Vector_Poly, T.ne_Poly_Ratio, T.ne_Poly_Vector, T.ne_Empty_ZeroBottom, T.ne_ZeroBottom_Empty, ↓reduceIte, Nat.reduceLeDiff, Nat.reduceLT, reduceCtorEq, isiInt, isiBool, isiStr, isiC, isiTup, isiLst, isiOr, nfC, inL, startP, startI, setAll, List.replicate, Nat.reduceSub, Nat.reduceAdd]
    refine ⟨zip_len ls rs hl, coll_zip (fun x z => u * x + v * z) ls rs [] (fun x hx z hz R r => ?_) h⟩
    simp (maxSteps := 3000000) (disch := decide) only [↓psE, psO, forall_const, ↓iAdd, ↓iSub, ↓iMul, ↓iDiv, ↓iMod, ↓iPow, ↓iLt, ↓iLe, ↓iGt, ↓iGe, T.ne_Ratio_Vector, T.ne_Ratio_Poly, T.ne_Vector_Ratio, T.ne_Vector_Poly, T.ne_Poly_Ratio, T.ne_Poly_Vector, T.ne_Empty_ZeroBottom, T.ne_ZeroBottom_Empty, ↓reduceIte, Nat.reduceLeDiff, Nat.reduceLT, reduceCtorEq, isiInt, isiBool, isiStr, isiC, isiTup, isiLst, isiOr, nfC, inL, startP, startI, setAll, List.replicate, Nat.reduceSub, Nat.reduceAdd]
    exact ⟨mulW su (sl x hx) (by decide), mulW sv (sr z hz) (by decide), r⟩

theorem ok_integer_dot (T : Txt K mg a) (S : Fs K a d) : FnOk P w K mg base (L2.CX P w) 1 a.f_integer_dot d.d_integer_dot ["left", "right"] (spP K (P_integer_dot a)) := by
  refine fa_q (k := 0) S.F_integer_dot sc_integer_dot (len_integer_dot a) (fun cdv A outer s H E hr =>
    (jss_one (js_ret (je_sum rfl T.b_sum (ja_cons (je_lc (own := [("one", 2), ("two", 3)]) (g := (gTup K 2 (gNames [2, 3]))) (t := (tTup [2, 3])) rfl sc_integer_dot.nd (ji_zip T.b_zip (ja_cons (je_var 0) (ja_cons (je_var 1) ja_nil))) (blkOk_by (N := ["left", "right", "one", "two"]) (sc := defScope s_integer_dot) (by decide +kernel)) (tg_tup [2, 3]) (fun _ _ _ _ _ => pg_tup rfl (pgs_cons (pg_name (i := 2) sc_integer_dot.nd rfl (Or.inl rfl)) (pgs_cons (pg_name (i := 3) sc_integer_dot.nd rfl (Or.inl rfl)) pgs_nil))) (fun _ _ _ _ _ => jts_nil) (fun _ _ _ _ _ => (je_mul (je_var 2) (je_var 3)))) ja_nil))))) ?pure
  case pure =>
    rintro xs y Q ⟨ls, rs, rfl, ⟨sl, sr, hl⟩, h⟩
    simp (maxSteps := 3000000) (disch := decide) only [↓psE, psO, forall_const, ↓iAdd, ↓iSub, ↓iMul, ↓iDiv, ↓iMod, ↓iPow, ↓iLt, ↓iLe, ↓iGt, ↓iGe, T.ne_Ratio_Vector, T.ne_Ratio_Poly, T.ne_Vector_Ratio, T.ne_Vector_Poly, T.ne_Poly_Ratio, T.ne_Poly_Vector, T.ne_Empty_ZeroBottom, T.ne_ZeroBottom_Empty, ↓reduceIte, Nat.reduceLeDiff, Nat.reduceLT, reduceCtorEq, isiInt, isiBool, isiStr, isiC, isiTup, isiLst, isiOr, nfC, inL, startP, startI, setAll, List.replicate, Nat.reduceSub, Nat.reduceAdd]
    refine ⟨zip_len ls rs hl, coll_zip (fun x z => x * z) ls rs [] (fun x hx z hz R r => ?_) ?_⟩
    · simp (maxSteps := 3000000) (disch := decide) only [↓psE, psO, forall_const, ↓iAdd, ↓iSub, ↓iMul, ↓iDiv, ↓iMod, ↓iPow, ↓iLt, ↓iLe, ↓iGt, ↓iGe, T.ne_Ratio_Vector, T.ne_Ratio_Poly, T.ne_Vector_Ratio, T.ne_Vector_Poly, T.ne_Poly_Ratio, T.ne_Poly_Vector, T.ne_Empty_ZeroBottom, T.ne_ZeroBottom_Empty, ↓reduceIte, Nat.reduceLeDiff, Nat.reduceLT, reduceCtorEq, isiInt, isiBool, isiStr, isiC, isiTup, isiLst, isiOr, nfC, inL, startP, startI, setAll, List.replicate, Nat.reduceSub, Nat.reduceAdd]
      exact ⟨mulW (sl x hx) (sr z hz) (by decide), r⟩
    · rw [List.nil_append, intsOf_map]
      exact h

theorem ok_Vector_init (T : Txt K mg a) (S : Fs K a d) : FnOk P w K mg base (L2.CX P w) 3 a.f_Vector_init d.d_Vector_init ["self", "tops", "bottom"] (spI K a.C_Vector (I_Vector_init a)) := by
  refine fa_qI (k := 2) S.F_Vector_init sc_Vector_init (len_Vector_init a) (fun cdv A outer s H E hr =>
    (jss_cons (js_if (jt_eq (je_len T.b_len (ja_cons (je_var 1) ja_nil)) je_int) (jss_one (js_raise rfl (takes_of rfl rfl rfl rfl) (pmk_x0 T.ox_Empty T.xi_Empty T.xt_Empty (ok_xEmpty T S) xf_Empty (hr.mono (by decide)) S.XB_Empty T.mg_Empty))) jss_nil)
      (jss_cons (js_if (jt_eq (je_var 2) je_int) (jss_one (js_raise rfl (takes_of rfl rfl rfl rfl) (pmk_x0 T.ox_ZeroBottom T.xi_ZeroBottom T.xt_ZeroBottom (ok_xZeroBottom T S) xf_ZeroBottom (hr.mono (by decide)) S.XB_ZeroBottom T.mg_ZeroBottom))) jss_nil)
      (jss_cons (js_set 3 sc_Vector_init.nd (je_call (ok_shared_part T S) (hr.mono (by decide)) T.mg_shared_part S.F_shared_part.kp S.B_shared_part .nil (fun _ => .nil) (tkOf (takes_of rfl rfl rfl rfl)) (ja_cons (je_var 1) (ja_cons (je_var 2) ja_nil))))
      (jss_cons (js_fld 0 T.cl_Vector T.na_Vector_tops (je_tuple T.b_tuple (ja_cons (je_lc (own := [("top", 4)]) (g := (gName 4)) (t := (tName 4)) rfl sc_Vector_init.nd (ji_any (je_var 1)) (blkOk_by (N := ["self", "tops", "bottom", "part", "top"]) (sc := defScope s_Vector_init) (by decide +kernel)) (tg_name 4) (fun _ _ _ _ _ => pg_name (i := 4) sc_Vector_init.nd rfl (Or.inl rfl)) (fun _ _ _ _ _ => jts_nil) (fun _ _ _ _ _ => (je_div (je_var 4) (je_var 3)))) ja_nil)))
      (jss_one (js_fld 0 T.cl_Vector T.na_Vector_bottom (je_div (je_var 2) (je_var 3))))))))) ?pure
  case pure =>
    rintro ad xs y Q ⟨ts, b, s, rfl, hs, h0, h1, h2⟩
    have fin : ts ≠ [] → b ≠ 0 → (ts.map PV.int).length ≤ 10000 ∧ qColl (tName 4) qYes (qOp (qI CDivG fun i j => PV.int (i.fdiv j)) (qVar 4) (qVar 3)) [some (Sl.ins ad a.C_Vector []), some (Sl.pv s), some (Sl.pv (PV.int b)), some (Sl.pv (PV.int (shared ts b))), none]
        (fun acc => CDivG b (shared ts b) ∧ Q [("tops", PV.tup acc), ("bottom", PV.int (b.fdiv (shared ts b)))]) (ts.map PV.int) [] := by
      intro e1 e2
      obtain ⟨⟨hl, hb⟩, hq⟩ := h2 e1 e2
      refine ⟨by rw [List.length_map]; omega, coll_ints (fun t => t.fdiv (shared ts b)) ts (fun t ht R r => ?_) ?_⟩
      · simp (maxSteps := 3000000) (disch := decide) only [↓psE, psO, forall_const, ↓iAdd, ↓iSub, ↓iMul, ↓iDiv, ↓iMod, ↓iPow, ↓iLt, ↓iLe, ↓iGt, ↓iGe, T.ne_Ratio_Vector, T.ne_Ratio_Poly, T.ne_Vector_Ratio, T.ne_Vector_Poly, T.ne_Poly_Ratio, T.ne_Poly_Vector, T.ne_Empty_ZeroBottom, T.ne_ZeroBottom_Empty, ↓reduceIte, Nat.reduceLeDiff, Nat.reduceLT, reduceCtorEq, isiInt, isiBool, isiStr, isiC, isiTup, isiLst, isiOr, nfC, inL, startP, startI, setAll, List.replicate, Nat.reduceSub, Nat.reduceAdd]
        exact ⟨divW (sharedV_sz hb e2) (sharedV_ne e2) (by decide), r⟩
      · exact ⟨divW (sharedV_sz hb e2) (sharedV_ne e2) (by decide), hq⟩
    simp (maxSteps := 3000000) (disch := decide) only [↓psE, psO, forall_const, ↓iAdd, ↓iSub, ↓iMul, ↓iDiv, ↓iMod, ↓iPow, ↓iLt, ↓iLe, ↓iGt, ↓iGe, T.ne_Ratio_Vector, T.ne_Ratio_Poly, T.ne_Vector_Ratio, T.ne_Vector_Poly, T.ne_Poly_Ratio, T.ne_Poly_Vector, T.ne_Empty_ZeroBottom, T.ne_ZeroBottom_Empty, ↓reduceIte, Nat.reduceLeDiff, Nat.reduceLT, reduceCtorEq, isiInt, isiBool, isiStr, isiC, isiTup, isiLst, isiOr, nfC, inL, startP, startI, setAll, List.replicate, Nat.reduceSub, Nat.reduceAdd]
    by_cases e1 : ts = []
    · subst e1
      rcases hs with rfl | rfl
      · simp (maxSteps := 3000000) (disch := decide) only [↓psE, psO, forall_const, ↓iAdd, ↓iSub, ↓iMul, ↓iDiv, ↓iMod, ↓iPow, ↓iLt, ↓iLe, ↓iGt, ↓iGe, T.ne_Ratio_Vector, T.ne_Ratio_Poly, T.ne_Vector_Ratio, T.ne_Vector_Poly, T.ne_Poly_Ratio, T.ne_Poly_Vector, T.ne_Empty_ZeroBottom, T.ne_ZeroBottom_Empty, ↓reduceIte, Nat.reduceLeDiff, Nat.reduceLT, reduceCtorEq, isiInt, isiBool, isiStr, isiC, isiTup, isiLst, isiOr, nfC, inL, startP, startI, setAll, List.replicate, Nat.reduceSub, Nat.reduceAdd]
        exact h0 rfl
      · simp (maxSteps := 3000000) (disch := decide) only [↓psE, psO, forall_const, ↓iAdd, ↓iSub, ↓iMul, ↓iDiv, ↓iMod, ↓iPow, ↓iLt, ↓iLe, ↓iGt, ↓iGe, T.ne_Ratio_Vector, T.ne_Ratio_Poly, T.ne_Vector_Ratio, T.ne_Vector_Poly, T.ne_Poly_Ratio, T.ne_Poly_Vector, T.ne_Empty_ZeroBottom, T.ne_ZeroBottom_Empty, ↓reduceIte, Nat.reduceLeDiff, Nat.reduceLT, reduceCtorEq, isiInt, isiBool, isiStr, isiC, isiTup, isiLst, isiOr, nfC, inL, startP, startI, setAll, List.replicate, Nat.reduceSub, Nat.reduceAdd]
        exact h0 rfl
    · by_cases e2 : b = 0
      · subst e2
        rcases hs with rfl | rfl
        · simp (maxSteps := 3000000) (disch := decide) only [↓psE, psO, forall_const, ↓iAdd, ↓iSub, ↓iMul, ↓iDiv, ↓iMod, ↓iPow, ↓iLt, ↓iLe, ↓iGt, ↓iGe, T.ne_Ratio_Vector, T.ne_Ratio_Poly, T.ne_Vector_Ratio, T.ne_Vector_Poly, T.ne_Poly_Ratio, T.ne_Poly_Vector, T.ne_Empty_ZeroBottom, T.ne_ZeroBottom_Empty, ↓reduceIte, Nat.reduceLeDiff, Nat.reduceLT, reduceCtorEq, isiInt, isiBool, isiStr, isiC, isiTup, isiLst, isiOr, nfC, inL, startP, startI, setAll, List.replicate, Nat.reduceSub, Nat.reduceAdd, len0, e1]
          exact h1 e1 rfl
        · simp (maxSteps := 3000000) (disch := decide) only [↓psE, psO, forall_const, ↓iAdd, ↓iSub, ↓iMul, ↓iDiv, ↓iMod, ↓iPow, ↓iLt, ↓iLe, ↓iGt, ↓iGe, T.ne_Ratio_Vector, T.ne_Ratio_Poly, T.ne_Vector_Ratio, T.ne_Vector_Poly, T.ne_Poly_Ratio, T.ne_Poly_Vector, T.ne_Empty_ZeroBottom, T.ne_ZeroBottom_Empty, ↓reduceIte, Nat.reduceLeDiff, Nat.reduceLT, reduceCtorEq, isiInt, isiBool, isiStr, isiC, isiTup, isiLst, isiOr, nfC, inL, startP, startI, setAll, List.replicate, Nat.reduceSub, Nat.reduceAdd, len0, e1]
          exact h1 e1 rfl
      · rcases hs with rfl | rfl
        · simp (maxSteps := 3000000) (disch := decide) only [↓psE, psO, forall_const, ↓iAdd, ↓iSub, ↓iMul, ↓iDiv, ↓iMod, ↓iPow, ↓iLt, ↓iLe, ↓iGt, ↓iGe, T.ne_Ratio_Vector, T.ne_Ratio_Poly, T.ne_Vector_Ratio, T.ne_Vector_Poly, T.ne_Poly_Ratio, T.ne_Poly_Vector, T.ne_Empty_ZeroBottom, T.ne_ZeroBottom_Empty, ↓reduceIte, Nat.reduceLeDiff, Nat.reduceLT, reduceCtorEq, isiInt, isiBool, isiStr, isiC, isiTup, isiLst, isiOr, nfC, inL, startP, startI, setAll, List.replicate, Nat.reduceSub, Nat.reduceAdd, len0, e1, e2]
          refine ⟨ts, b, _, rfl, .inl rfl, .inl ?_⟩
          simp (maxSteps := 3000000) (disch := decide) only [↓psE, psO, forall_const, ↓iAdd, ↓iSub, ↓iMul, ↓iDiv, ↓iMod, ↓iPow, ↓iLt, ↓iLe, ↓iGt, ↓iGe, T.ne_Ratio_Vector, T.ne_Ratio_Poly, T.ne_Vector_Ratio, T.ne_Vector_Poly, T.ne_Poly_Ratio, T.ne_Poly_Vector, T.ne_Empty_ZeroBottom, T.ne_ZeroBottom_Empty, ↓reduceIte, Nat.reduceLeDiff, Nat.reduceLT, reduceCtorEq, isiInt, isiBool, isiStr, isiC, isiTup, isiLst, isiOr, nfC, inL, startP, startI, setAll, List.replicate, Nat.reduceSub, Nat.reduceAdd]
          exact fin e1 e2
        · simp (maxSteps := 3000000) (disch := decide) only [↓psE, psO, forall_const, ↓iAdd, ↓iSub, ↓iMul, ↓iDiv, ↓iMod, ↓iPow, ↓iLt, ↓iLe, ↓iGt, ↓iGe, T.ne_Ratio_Vector, T.ne_Ratio_Poly, T.ne_Vector_Ratio, T.ne_Vector_Poly, T.ne_Poly_Ratio, T.ne_Poly_Vector, T.ne_Empty_ZeroBottom, T.ne_ZeroBottom_Empty, ↓reduceIte, Nat.reduceLeDiff, Nat.reduceLT, reduceCtorEq, isiInt, isiBool, isiStr, isiC, isiTup, isiLst, isiOr, nfC, inL, startP, startI, setAll, List.replicate, Nat.reduceSub, Nat.reduceAdd, len0, e1, e2]
          refine ⟨ts, b, _, rfl, .inr rfl, .inr ?_⟩
          simp (maxSteps := 3000000) (disch := decide) only [↓psE, psO, forall_const, ↓iAdd, ↓iSub, ↓iMul, ↓iDiv, ↓iMod, ↓iPow, ↓iLt, ↓iLe, ↓iGt, ↓iGe, T.ne_Ratio_Vector, T.ne_Ratio_Poly, T.ne_Vector_Ratio, T.ne_Vector_Poly, T.ne_Poly_Ratio, T.ne_Poly_Vector, T.ne_Empty_ZeroBottom, T.ne_ZeroBottom_Empty, ↓reduceIte, Nat.reduceLeDiff, Nat.reduceLT, reduceCtorEq, isiInt, isiBool, isiStr, isiC, isiTup, isiLst, isiOr, nfC, inL, startP, startI, setAll, List.replicate, Nat.reduceSub, Nat.reduceAdd]
          exact fin e1 e2

theorem ok_Vector_is_zero (T : Txt K mg a) (S : Fs K a d) : FnOk P w K mg base (L2.CX P w) 1 a.f_Vector_is_zero d.d_Vector_is_zero ["self"] (spP K (P_Vector_is_zero a)) := by
  refine fa_q (k := 0) S.F_Vector_is_zero sc_Vector_is_zero (len_Vector_is_zero a) (fun cdv A outer s H E hr =>
    (jss_one (js_ret (je_all rfl T.b_all (ja_cons (je_lc (own := [("top", 1)]) (g := (gName 1)) (t := (tName 1)) rfl sc_Vector_is_zero.nd (ji_tup (je_fld (je_var 0) T.cl_Vector T.na_Vector_tops)) (blkOk_by (N := ["self", "top"]) (sc := defScope s_Vector_is_zero) (by decide +kernel)) (tg_name 1) (fun _ _ _ _ _ => pg_name (i := 1) sc_Vector_is_zero.nd rfl (Or.inl rfl)) (fun _ _ _ _ _ => jts_nil) (fun _ _ _ _ _ => (je_eq (je_var 1) je_int))) ja_nil))))) ?pure
  case pure =>
    rintro xs y Q ⟨ts, b, rfl, hl, h⟩
    simp (maxSteps := 3000000) (disch := decide) only [↓psE, psO, forall_const, ↓iAdd, ↓iSub, ↓iMul, ↓iDiv, ↓iMod, ↓iPow, ↓iLt, ↓iLe, ↓iGt, ↓iGe, T.ne_Ratio_Vector, T.ne_Ratio_Poly, T.ne_Vector_Ratio, T.ne_Vector_Poly, T.ne_Poly_Ratio, T.ne_Poly_Vector, T.ne_Empty_ZeroBottom, T.ne_ZeroBottom_Empty, ↓reduceIte, Nat.reduceLeDiff, Nat.reduceLT, reduceCtorEq, isiInt, isiBool, isiStr, isiC, isiTup, isiLst, isiOr, nfC, inL, startP, startI, setAll, List.replicate, Nat.reduceSub, Nat.reduceAdd]
    refine ⟨by rw [List.length_map]; omega, coll_bls (fun t => t == 0) ts (fun t ht R r => ?_) ?_⟩
    · simp (maxSteps := 3000000) (disch := decide) only [↓psE, psO, forall_const, ↓iAdd, ↓iSub, ↓iMul, ↓iDiv, ↓iMod, ↓iPow, ↓iLt, ↓iLe, ↓iGt, ↓iGe, T.ne_Ratio_Vector, T.ne_Ratio_Poly, T.ne_Vector_Ratio, T.ne_Vector_Poly, T.ne_Poly_Ratio, T.ne_Poly_Vector, T.ne_Empty_ZeroBottom, T.ne_ZeroBottom_Empty, ↓reduceIte, Nat.reduceLeDiff, Nat.reduceLT, reduceCtorEq, isiInt, isiBool, isiStr, isiC, isiTup, isiLst, isiOr, nfC, inL, startP, startI, setAll, List.replicate, Nat.reduceSub, Nat.reduceAdd]
      exact r
    · rw [blsOf_map]
      simp (maxSteps := 3000000) (disch := decide) only [↓psE, psO, forall_const, ↓iAdd, ↓iSub, ↓iMul, ↓iDiv, ↓iMod, ↓iPow, ↓iLt, ↓iLe, ↓iGt, ↓iGe, T.ne_Ratio_Vector, T.ne_Ratio_Poly, T.ne_Vector_Ratio, T.ne_Vector_Poly, T.ne_Poly_Ratio, T.ne_Poly_Vector, T.ne_Empty_ZeroBottom, T.ne_ZeroBottom_Empty, ↓reduceIte, Nat.reduceLeDiff, Nat.reduceLT, reduceCtorEq, isiInt, isiBool, isiStr, isiC, isiTup, isiLst, isiOr, nfC, inL, startP, startI, setAll, List.replicate, Nat.reduceSub, Nat.reduceAdd, List.all_map]
      exact h

theorem ok_Vector_len (T : Txt K mg a) (S : Fs K a d) : FnOk P w K mg base (L2.CX P w) 1 a.f_Vector_len d.d_Vector_len ["self"] (spP K (P_Vector_len a)) := by
  refine fa_q (k := 0) S.F_Vector_len sc_Vector_len (len_Vector_len a) (fun cdv A outer s H E hr =>
    (jss_one (js_ret (je_len T.b_len (ja_cons (je_fld (je_var 0) T.cl_Vector T.na_Vector_tops) ja_nil))))) ?pure
  case pure =>
    rintro xs y Q ⟨ts, b, rfl, h⟩
    simp (maxSteps := 3000000) (disch := decide) only [↓psE, psO, forall_const, ↓iAdd, ↓iSub, ↓iMul, ↓iDiv, ↓iMod, ↓iPow, ↓iLt, ↓iLe, ↓iGt, ↓iGe, T.ne_Ratio_Vector, T.ne_Ratio_Poly, T.ne_Vector_Ratio, T.ne_Vector_Poly, T.ne_Poly_Ratio, T.ne_Poly_Vector, T.ne_Empty_ZeroBottom, T.ne_ZeroBottom_Empty, ↓reduceIte, Nat.reduceLeDiff, Nat.reduceLT, reduceCtorEq, isiInt, isiBool, isiStr, isiC, isiTup, isiLst, isiOr, nfC, inL, startP, startI, setAll, List.replicate, Nat.reduceSub, Nat.reduceAdd, List.length_map]
    exact h

theorem ok_Vector_getitem (T : Txt K mg a) (S : Fs K a d) : FnOk P w K mg base (L2.CX P w) 5 a.f_Vector_getitem d.d_Vector_getitem ["self", "at"] (spP K (P_Vector_getitem a)) := by
  refine fa_q (k := 4) S.F_Vector_getitem sc_Vector_getitem (len_Vector_getitem a) (fun cdv A outer s H E hr =>
    (jss_one (js_ret (je_make T.mk_Ratio (ok_Ratio_init T S) (hr.mono (by decide)) T.mg_Ratio S.B_Ratio_init .nil (fun _ => .nil) (tkOf (takes_of rfl rfl rfl rfl)) (ja_cons (je_ix (je_fld (je_var 0) T.cl_Vector T.na_Vector_tops) (je_var 1)) (ja_cons (je_fld (je_var 0) T.cl_Vector T.na_Vector_bottom) ja_nil)))))) ?pure
  case pure =>
    rintro xs y Q ⟨ts, b, k, rfl, t, ht, ⟨hb, sb⟩, h⟩
    simp (maxSteps := 3000000) (disch := decide) only [↓psE, psO, forall_const, ↓iAdd, ↓iSub, ↓iMul, ↓iDiv, ↓iMod, ↓iPow, ↓iLt, ↓iLe, ↓iGt, ↓iGe, T.ne_Ratio_Vector, T.ne_Ratio_Poly, T.ne_Vector_Ratio, T.ne_Vector_Poly, T.ne_Poly_Ratio, T.ne_Poly_Vector, T.ne_Empty_ZeroBottom, T.ne_ZeroBottom_Empty, ↓reduceIte, Nat.reduceLeDiff, Nat.reduceLT, reduceCtorEq, isiInt, isiBool, isiStr, isiC, isiTup, isiLst, isiOr, nfC, inL, startP, startI, setAll, List.replicate, Nat.reduceSub, Nat.reduceAdd, List.length_map, Int.natCast_inj, Int.toNat_natCast, Int.zero_add, toD_lst, toD_tup, shaped_lst, shaped_tup, eqv_lst, eqv_tup, toD_nil, shaped_nil, eqv_nil, List.length_set, List.length_range, rangeP_len, ixN_0, atI_map ht, ↓i_Ratio_init, hb, sb]
    exact h

theorem ok_Vector_add (T : Txt K mg a) (S : Fs K a d) : FnOk P w K mg base (L2.CX P w) 5 a.f_Vector_add d.d_Vector_add ["self", "other"] (spP K (P_Vector_add a)) := by
  refine fa_q (k := 4) S.F_Vector_add sc_Vector_add (len_Vector_add a) (fun cdv A outer s H E hr =>
    (jss_cons (js_if (jt_not (jt_val (je_isiC (kit_c (os := [a.C_Ratio, a.C_Poly]) T.is_Vector T.kc_Vector T.ko_Vector) T.b_isinstance (je_var 1) T.mg_Vector))) (jss_one js_never) jss_nil)
      (jss_cons (js_if (jt_ne (je_lenOwn T.fi_Vector_len T.isf_Vector_len (ok_Vector_len T S) (hr.mono (by decide)) S.B_Vector_len T.b_len (ja_cons (je_var 0) ja_nil)) (je_lenOwn T.fi_Vector_len T.isf_Vector_len (ok_Vector_len T S) (hr.mono (by decide)) S.B_Vector_len T.b_len (ja_cons (je_var 1) ja_nil))) (jss_one (js_raise rfl (takes_of rfl rfl rfl rfl) (pmk_x T.ox_SizeMismatch T.xi_SizeMismatch T.xt_SizeMismatch (ok_xSizeMismatch T S) xf_SizeMismatch (hr.mono (by decide)) S.XB_SizeMismatch (by decide) T.mg_SizeMismatch (ja_cons (je_lenOwn T.fi_Vector_len T.isf_Vector_len (ok_Vector_len T S) (hr.mono (by decide)) S.B_Vector_len T.b_len (ja_cons (je_var 0) ja_nil)) (ja_cons (je_lenOwn T.fi_Vector_len T.isf_Vector_len (ok_Vector_len T S) (hr.mono (by decide)) S.B_Vector_len T.b_len (ja_cons (je_var 1) ja_nil)) ja_nil))))) jss_nil)
      (jss_cons (js_unp [2, 3, 4] rfl (pgs_cons (pg_name (i := 2) sc_Vector_add.nd rfl (Or.inl rfl)) (pgs_cons (pg_name (i := 3) sc_Vector_add.nd rfl (Or.inl rfl)) (pgs_cons (pg_name (i := 4) sc_Vector_add.nd rfl (Or.inl rfl)) pgs_nil))) (je_call (ok_common_bottom T S) (hr.mono (by decide)) T.mg_common_bottom S.F_common_bottom.kp S.B_common_bottom .nil (fun _ => .nil) (tkOf (takes_of rfl rfl rfl rfl)) (ja_cons (je_fld (je_var 0) T.cl_Vector T.na_Vector_bottom) (ja_cons (je_fld (je_var 1) T.cl_Vector T.na_Vector_bottom) ja_nil))))
      (jss_one (js_ret (je_make T.mk_Vector (ok_Vector_init T S) (hr.mono (by decide)) T.mg_Vector S.B_Vector_init .nil (fun _ => .nil) (tkOf (takes_of rfl rfl rfl rfl)) (ja_cons (je_call (ok_weighted_sums T S) (hr.mono (by decide)) T.mg_weighted_sums S.F_weighted_sums.kp S.B_weighted_sums .nil (fun _ => .nil) (tkOf (takes_of rfl rfl rfl rfl)) (ja_cons (je_var 3) (ja_cons (je_fld (je_var 0) T.cl_Vector T.na_Vector_tops) (ja_cons (je_var 4) (ja_cons (je_fld (je_var 1) T.cl_Vector T.na_Vector_tops) ja_nil))))) (ja_cons (je_var 2) ja_nil))))))))) ?pure
  case pure =>
    rintro xs y Q ⟨ts, b, us, c, rfl, ⟨⟨t1, t2, t3, t4, t5⟩, ⟨u1, u2, u3, u4, u5⟩⟩, h1, h2⟩
    simp (maxSteps := 3000000) (disch := decide) only [↓psE, psO, forall_const, ↓iAdd, ↓iSub, ↓iMul, ↓iDiv, ↓iMod, ↓iPow, ↓iLt, ↓iLe, ↓iGt, ↓iGe, T.ne_Ratio_Vector, T.ne_Ratio_Poly, T.ne_Vector_Ratio, T.ne_Vector_Poly, T.ne_Poly_Ratio, T.ne_Poly_Vector, T.ne_Empty_ZeroBottom, T.ne_ZeroBottom_Empty, ↓reduceIte, Nat.reduceLeDiff, Nat.reduceLT, reduceCtorEq, isiInt, isiBool, isiStr, isiC, isiTup, isiLst, isiOr, nfC, inL, startP, startI, setAll, List.replicate, Nat.reduceSub, Nat.reduceAdd, ↓i_Vector_len, ↓i_common_bottom]
    refine ⟨by omega, by omega, by omega, by omega, ?_⟩
    by_cases e : ts.length = us.length
    · have e' : (ts.length : Int) = us.length := by omega
      rw [if_neg (fun z => z e')]
      have l1 := lcmZ_sz t2 u2
      have sb := fdiv_dvd_sz (lcmZ_dl b c) t3 l1
      have sc := fdiv_dvd_sz (lcmZ_dr b c) u3 l1
      refine ⟨⟨t3, u3, t2.mono (by decide), u2.mono (by decide)⟩, ?_⟩
      refine ⟨_, _, _, _, rfl, ⟨sb.mono (by decide), sc.mono (by decide), fun t h => (t1 t h).mono (by decide), fun t h => (u1 t h).mono (by decide), by omega⟩, ?_⟩
      exact ⟨addT ts b us c, lcmZ b c, _, rfl, .inl rfl, fun z => absurd z (wsum_ne e t4), fun _ z => absurd z (lcmZ_ne t3 u3), fun _ _ => ⟨⟨by unfold addT; rw [wsum_len e]; omega, l1.mono (by decide)⟩, h2 e⟩⟩
    · have e' : ¬ (ts.length : Int) = us.length := by omega
      rw [if_pos e']
      exact ⟨by omega, by omega, by omega, by omega, h1 e⟩

theorem ok_Vector_sub (T : Txt K mg a) (S : Fs K a d) : FnOk P w K mg base (L2.CX P w) 5 a.f_Vector_sub d.d_Vector_sub ["self", "other"] (spP K (P_Vector_sub a)) := by
  refine fa_q (k := 4) S.F_Vector_sub sc_Vector_sub (len_Vector_sub a) (fun cdv A outer s H E hr =>
    (jss_cons (js_if (jt_not (jt_val (je_isiC (kit_c (os := [a.C_Ratio, a.C_Poly]) T.is_Vector T.kc_Vector T.ko_Vector) T.b_isinstance (je_var 1) T.mg_Vector))) (jss_one js_never) jss_nil)
      (jss_cons (js_if (jt_ne (je_lenOwn T.fi_Vector_len T.isf_Vector_len (ok_Vector_len T S) (hr.mono (by decide)) S.B_Vector_len T.b_len (ja_cons (je_var 0) ja_nil)) (je_lenOwn T.fi_Vector_len T.isf_Vector_len (ok_Vector_len T S) (hr.mono (by decide)) S.B_Vector_len T.b_len (ja_cons (je_var 1) ja_nil))) (jss_one (js_raise rfl (takes_of rfl rfl rfl rfl) (pmk_x T.ox_SizeMismatch T.xi_SizeMismatch T.xt_SizeMismatch (ok_xSizeMismatch T S) xf_SizeMismatch (hr.mono (by decide)) S.XB_SizeMismatch (by decide) T.mg_SizeMismatch (ja_cons (je_lenOwn T.fi_Vector_len T.isf_Vector_len (ok_Vector_len T S) (hr.mono (by decide)) S.B_Vector_len T.b_len (ja_cons (je_var 0) ja_nil)) (ja_cons (je_lenOwn T.fi_Vector_len T.isf_Vector_len (ok_Vector_len T S) (hr.mono (by decide)) S.B_Vector_len T.b_len (ja_cons (je_var 1) ja_nil)) ja_nil))))) jss_nil)
      (jss_cons (js_unp [2, 3, 4] rfl (pgs_cons (pg_name (i := 2) sc_Vector_sub.nd rfl (Or.inl rfl)) (pgs_cons (pg_name (i := 3) sc_Vector_sub.nd rfl (Or.inl rfl)) (pgs_cons (pg_name (i := 4) sc_Vector_sub.nd rfl (Or.inl rfl)) pgs_nil))) (je_call (ok_common_bottom T S) (hr.mono (by decide)) T.mg_common_bottom S.F_common_bottom.kp S.B_common_bottom .nil (fun _ => .nil) (tkOf (takes_of rfl rfl rfl rfl)) (ja_cons (je_fld (je_var 0) T.cl_Vector T.na_Vector_bottom) (ja_cons (je_fld (je_var 1) T.cl_Vector T.na_Vector_bottom) ja_nil))))
      (jss_one (js_ret (je_make T.mk_Vector (ok_Vector_init T S) (hr.mono (by decide)) T.mg_Vector S.B_Vector_init .nil (fun _ => .nil) (tkOf (takes_of rfl rfl rfl rfl)) (ja_cons (je_call (ok_weighted_sums T S) (hr.mono (by decide)) T.mg_weighted_sums S.F_weighted_sums.kp S.B_weighted_sums .nil (fun _ => .nil) (tkOf (takes_of rfl rfl rfl rfl)) (ja_cons (je_var 3) (ja_cons (je_fld (je_var 0) T.cl_Vector T.na_Vector_tops) (ja_cons (je_neg (je_var 4)) (ja_cons (je_fld (je_var 1) T.cl_Vector T.na_Vector_tops) ja_nil))))) (ja_cons (je_var 2) ja_nil))))))))) ?pure
  case pure =>
    rintro xs y Q ⟨ts, b, us, c, rfl, ⟨⟨t1, t2, t3, t4, t5⟩, ⟨u1, u2, u3, u4, u5⟩⟩, h1, h2⟩
    simp (maxSteps := 3000000) (disch := decide) only [↓psE, psO, forall_const, ↓iAdd, ↓iSub, ↓iMul, ↓iDiv, ↓iMod, ↓iPow, ↓iLt, ↓iLe, ↓iGt, ↓iGe, T.ne_Ratio_Vector, T.ne_Ratio_Poly, T.ne_Vector_Ratio, T.ne_Vector_Poly, T.ne_Poly_Ratio, T.ne_Poly_Vector, T.ne_Empty_ZeroBottom, T.ne_ZeroBottom_Empty, ↓reduceIte, Nat.reduceLeDiff, Nat.reduceLT, reduceCtorEq, isiInt, isiBool, isiStr, isiC, isiTup, isiLst, isiOr, nfC, inL, startP, startI, setAll, List.replicate, Nat.reduceSub, Nat.reduceAdd, ↓i_Vector_len, ↓i_common_bottom]
    refine ⟨by omega, by omega, by omega, by omega, ?_⟩
    by_cases e : ts.length = us.length
    · have e' : (ts.length : Int) = us.length := by omega
      rw [if_neg (fun z => z e')]
      have l1 := lcmZ_sz t2 u2
      have sb := fdiv_dvd_sz (lcmZ_dl b c) t3 l1
      have sc := fdiv_dvd_sz (lcmZ_dr b c) u3 l1
      refine ⟨⟨t3, u3, t2.mono (by decide), u2.mono (by decide)⟩, ?_⟩
      refine ⟨_, _, _, _, rfl, ⟨sb.mono (by decide), sc.neg.mono (by decide), fun t h => (t1 t h).mono (by decide), fun t h => (u1 t h).mono (by decide), by omega⟩, ?_⟩
      exact ⟨subT ts b us c, lcmZ b c, _, rfl, .inl rfl, fun z => absurd z (wsum_ne e t4), fun _ z => absurd z (lcmZ_ne t3 u3), fun _ _ => ⟨⟨by unfold subT; rw [wsum_len e]; omega, l1.mono (by decide)⟩, h2 e⟩⟩
    · have e' : ¬ (ts.length : Int) = us.length := by omega
      rw [if_pos e']
      exact ⟨by omega, by omega, by omega, by omega, h1 e⟩

theorem ok_Vector_neg (T : Txt K mg a) (S : Fs K a d) : FnOk P w K mg base (L2.CX P w) 5 a.f_Vector_neg d.d_Vector_neg ["self"] (spP K (P_Vector_neg a)) := by
  refine fa_q (k := 4) S.F_Vector_neg sc_Vector_neg (len_Vector_neg a) (fun cdv A outer s H E hr =>
    (jss_one (js_ret (je_make T.mk_Vector (ok_Vector_init T S) (hr.mono (by decide)) T.mg_Vector S.B_Vector_init .nil (fun _ => .nil) (tkOf (takes_of rfl rfl rfl rfl)) (ja_cons (je_lc (own := [("top", 1)]) (g := (gName 1)) (t := (tName 1)) rfl sc_Vector_neg.nd (ji_tup (je_fld (je_var 0) T.cl_Vector T.na_Vector_tops)) (blkOk_by (N := ["self", "top"]) (sc := defScope s_Vector_neg) (by decide +kernel)) (tg_name 1) (fun _ _ _ _ _ => pg_name (i := 1) sc_Vector_neg.nd rfl (Or.inl rfl)) (fun _ _ _ _ _ => jts_nil) (fun _ _ _ _ _ => (je_neg (je_var 1)))) (ja_cons (je_fld (je_var 0) T.cl_Vector T.na_Vector_bottom) ja_nil)))))) ?pure
  case pure =>
    rintro xs y Q ⟨ts, b, rfl, ⟨h1, h2, h3, h4, h5⟩, h⟩
    simp (maxSteps := 3000000) (disch := decide) only [↓psE, psO, forall_const, ↓iAdd, ↓iSub, ↓iMul, ↓iDiv, ↓iMod, ↓iPow, ↓iLt, ↓iLe, ↓iGt, ↓iGe, T.ne_Ratio_Vector, T.ne_Ratio_Poly, T.ne_Vector_Ratio, T.ne_Vector_Poly, T.ne_Poly_Ratio, T.ne_Poly_Vector, T.ne_Empty_ZeroBottom, T.ne_ZeroBottom_Empty, ↓reduceIte, Nat.reduceLeDiff, Nat.reduceLT, reduceCtorEq, isiInt, isiBool, isiStr, isiC, isiTup, isiLst, isiOr, nfC, inL, startP, startI, setAll, List.replicate, Nat.reduceSub, Nat.reduceAdd]
    refine ⟨by rw [List.length_map]; omega, coll_ints (fun t => -t) ts (fun t ht R r => ?_) ?_⟩
    · simp (maxSteps := 3000000) (disch := decide) only [↓psE, psO, forall_const, ↓iAdd, ↓iSub, ↓iMul, ↓iDiv, ↓iMod, ↓iPow, ↓iLt, ↓iLe, ↓iGt, ↓iGe, T.ne_Ratio_Vector, T.ne_Ratio_Poly, T.ne_Vector_Ratio, T.ne_Vector_Poly, T.ne_Poly_Ratio, T.ne_Poly_Vector, T.ne_Empty_ZeroBottom, T.ne_ZeroBottom_Empty, ↓reduceIte, Nat.reduceLeDiff, Nat.reduceLT, reduceCtorEq, isiInt, isiBool, isiStr, isiC, isiTup, isiLst, isiOr, nfC, inL, startP, startI, setAll, List.replicate, Nat.reduceSub, Nat.reduceAdd]
      exact r
    · exact ⟨_, _, _, rfl, .inl rfl, fun z => absurd z (by simpa using h4), fun _ z => absurd z h3, fun _ _ => ⟨⟨by rw [List.length_map]; omega, h2.mono (by decide)⟩, h⟩⟩

theorem ok_Vector_mul (T : Txt K mg a) (S : Fs K a d) : FnOk P w K mg base (L2.CX P w) 5 a.f_Vector_mul d.d_Vector_mul ["self", "factor"] (spP K (P_Vector_mul a)) := by
  refine fa_q (k := 4) S.F_Vector_mul sc_Vector_mul (len_Vector_mul a) (fun cdv A outer s H E hr =>
    (jss_cons (js_if (jt_val (je_isiT (kit_int (os := [a.C_Ratio, a.C_Vector, a.C_Poly]) T.ko_int) T.b_isinstance (je_var 1) T.b_int)) (jss_one (js_ret (je_make T.mk_Vector (ok_Vector_init T S) (hr.mono (by decide)) T.mg_Vector S.B_Vector_init .nil (fun _ => .nil) (tkOf (takes_of rfl rfl rfl rfl)) (ja_cons (je_lc (own := [("top", 2)]) (g := (gName 2)) (t := (tName 2)) rfl sc_Vector_mul.nd (ji_tup (je_fld (je_var 0) T.cl_Vector T.na_Vector_tops)) (blkOk_by (N := ["self", "factor", "top"]) (sc := defScope s_Vector_mul) (by decide +kernel)) (tg_name 2) (fun _ _ _ _ _ => pg_name (i := 2) sc_Vector_mul.nd rfl (Or.inl rfl)) (fun _ _ _ _ _ => jts_nil) (fun _ _ _ _ _ => (je_mul (je_var 2) (je_var 1)))) (ja_cons (je_fld (je_var 0) T.cl_Vector T.na_Vector_bottom) ja_nil))))) jss_nil)
      (jss_cons (js_if (jt_val (je_isiC (kit_c (os := [a.C_Vector, a.C_Poly]) T.is_Ratio T.kc_Ratio T.ko_Ratio) T.b_isinstance (je_var 1) T.mg_Ratio)) (jss_one (js_ret (je_make T.mk_Vector (ok_Vector_init T S) (hr.mono (by decide)) T.mg_Vector S.B_Vector_init .nil (fun _ => .nil) (tkOf (takes_of rfl rfl rfl rfl)) (ja_cons (je_lc (own := [("top", 2)]) (g := (gName 2)) (t := (tName 2)) rfl sc_Vector_mul.nd (ji_tup (je_fld (je_var 0) T.cl_Vector T.na_Vector_tops)) (blkOk_by (N := ["self", "factor", "top"]) (sc := defScope s_Vector_mul) (by decide +kernel)) (tg_name 2) (fun _ _ _ _ _ => pg_name (i := 2) sc_Vector_mul.nd rfl (Or.inl rfl)) (fun _ _ _ _ _ => jts_nil) (fun _ _ _ _ _ => (je_mul (je_var 2) (je_fld (je_var 1) T.cl_Ratio T.na_Ratio_top)))) (ja_cons (je_mul (je_fld (je_var 0) T.cl_Vector T.na_Vector_bottom) (je_fld (je_var 1) T.cl_Ratio T.na_Ratio_bottom)) ja_nil))))) jss_nil)
      (jss_one js_never)))) ?pure
  case pure =>
    rintro xs y Q ⟨ts, b, z, rfl, ⟨h1, h2, h3, h4, h5⟩, h⟩
    rcases h with ⟨n, rfl, sn, h⟩ | ⟨p, q, rfl, ⟨sp, sq, hq⟩, h⟩
    · simp (maxSteps := 3000000) (disch := decide) only [↓psE, psO, forall_const, ↓iAdd, ↓iSub, ↓iMul, ↓iDiv, ↓iMod, ↓iPow, ↓iLt, ↓iLe, ↓iGt, ↓iGe, T.ne_Ratio_Vector, T.ne_Ratio_Poly, T.ne_Vector_Ratio, T.ne_Vector_Poly, T.ne_Poly_Ratio, T.ne_Poly_Vector, T.ne_Empty_ZeroBottom, T.ne_ZeroBottom_Empty, ↓reduceIte, Nat.reduceLeDiff, Nat.reduceLT, reduceCtorEq, isiInt, isiBool, isiStr, isiC, isiTup, isiLst, isiOr, nfC, inL, startP, startI, setAll, List.replicate, Nat.reduceSub, Nat.reduceAdd]
      refine ⟨by rw [List.length_map]; omega, coll_ints (fun t => t * n) ts (fun t ht R r => ?_) ?_⟩
      · simp (maxSteps := 3000000) (disch := decide) only [↓psE, psO, forall_const, ↓iAdd, ↓iSub, ↓iMul, ↓iDiv, ↓iMod, ↓iPow, ↓iLt, ↓iLe, ↓iGt, ↓iGe, T.ne_Ratio_Vector, T.ne_Ratio_Poly, T.ne_Vector_Ratio, T.ne_Vector_Poly, T.ne_Poly_Ratio, T.ne_Poly_Vector, T.ne_Empty_ZeroBottom, T.ne_ZeroBottom_Empty, ↓reduceIte, Nat.reduceLeDiff, Nat.reduceLT, reduceCtorEq, isiInt, isiBool, isiStr, isiC, isiTup, isiLst, isiOr, nfC, inL, startP, startI, setAll, List.replicate, Nat.reduceSub, Nat.reduceAdd]
        exact ⟨mulW (h1 t ht) sn (by decide), r⟩
      · exact ⟨_, _, _, rfl, .inl rfl, fun z => absurd z (by simpa using h4), fun _ z => absurd z h3, fun _ _ => ⟨⟨by rw [List.length_map]; omega, h2.mono (by decide)⟩, h⟩⟩
    · simp (maxSteps := 3000000) (disch := decide) only [↓psE, psO, forall_const, ↓iAdd, ↓iSub, ↓iMul, ↓iDiv, ↓iMod, ↓iPow, ↓iLt, ↓iLe, ↓iGt, ↓iGe, T.ne_Ratio_Vector, T.ne_Ratio_Poly, T.ne_Vector_Ratio, T.ne_Vector_Poly, T.ne_Poly_Ratio, T.ne_Poly_Vector, T.ne_Empty_ZeroBottom, T.ne_ZeroBottom_Empty, ↓reduceIte, Nat.reduceLeDiff, Nat.reduceLT, reduceCtorEq, isiInt, isiBool, isiStr, isiC, isiTup, isiLst, isiOr, nfC, inL, startP, startI, setAll, List.replicate, Nat.reduceSub, Nat.reduceAdd, rat]
      refine ⟨by rw [List.length_map]; omega, coll_ints (fun t => t * p) ts (fun t ht R r => ?_) ?_⟩
      · simp (maxSteps := 3000000) (disch := decide) only [↓psE, psO, forall_const, ↓iAdd, ↓iSub, ↓iMul, ↓iDiv, ↓iMod, ↓iPow, ↓iLt, ↓iLe, ↓iGt, ↓iGe, T.ne_Ratio_Vector, T.ne_Ratio_Poly, T.ne_Vector_Ratio, T.ne_Vector_Poly, T.ne_Poly_Ratio, T.ne_Poly_Vector, T.ne_Empty_ZeroBottom, T.ne_ZeroBottom_Empty, ↓reduceIte, Nat.reduceLeDiff, Nat.reduceLT, reduceCtorEq, isiInt, isiBool, isiStr, isiC, isiTup, isiLst, isiOr, nfC, inL, startP, startI, setAll, List.replicate, Nat.reduceSub, Nat.reduceAdd]
        exact ⟨mulW (h1 t ht) sp (by decide), r⟩
      · refine ⟨mulW h2 sq (by decide), ?_⟩
        exact ⟨_, _, _, rfl, .inl rfl, fun z => absurd z (by simpa using h4), fun _ z => absurd z (Int.mul_ne_zero h3 hq), fun _ _ => ⟨⟨by rw [List.length_map]; omega, (h2.mul sq).mono (by decide)⟩, h⟩⟩

theorem ok_Vector_rmul (T : Txt K mg a) (S : Fs K a d) : FnOk P w K mg base (L2.CX P w) 6 a.f_Vector_rmul d.d_Vector_rmul ["self", "factor"] (spP K (P_Vector_rmul a)) := by
  refine fa_q (k := 5) S.F_Vector_rmul sc_Vector_rmul (len_Vector_rmul a) (fun cdv A outer s H E hr =>
    (jss_cons (js_if (jt_not (jt_val (je_isi2 (kit_int (os := [a.C_Ratio, a.C_Vector, a.C_Poly]) T.ko_int) (kit_c (os := [a.C_Vector, a.C_Poly]) T.is_Ratio T.kc_Ratio T.ko_Ratio) T.b_isinstance (je_var 1) (pe_bltn (v := .ty "int") (u := .type "int") rfl T.b_int (by decide +kernel) rfl (by decide) (by decide)) (pe_glob (v := .ref a.C_Ratio) rfl T.mg_Ratio rfl (by decide)) (.ty "int") (.own a.C_Ratio)))) (jss_one js_never) jss_nil)
      (jss_one (js_ret (je_bin2 T.op_Vector_mul T.oi_Vector_mul T.op_Ratio_mul T.od_Vector_Ratio (ok_Vector_mul T S) (hr.mono (by decide)) S.B_Vector_mul (tkOf (takes_of rfl rfl rfl rfl)) (je_var 0) (je_var 1)))))) ?pure
  case pure =>
    rintro xs y Q ⟨ts, b, z, rfl, g, h⟩
    have k : P_Vector_mul a [vec a.C_Vector ts b, z] y Q := ⟨ts, b, z, rfl, g, h⟩
    rcases h with ⟨n, rfl, sn, h⟩ | ⟨p, q, rfl, ⟨sp, sq, hq⟩, h⟩
    · simp (maxSteps := 3000000) (disch := decide) only [↓psE, psO, forall_const, ↓iAdd, ↓iSub, ↓iMul, ↓iDiv, ↓iMod, ↓iPow, ↓iLt, ↓iLe, ↓iGt, ↓iGe, T.ne_Ratio_Vector, T.ne_Ratio_Poly, T.ne_Vector_Ratio, T.ne_Vector_Poly, T.ne_Poly_Ratio, T.ne_Poly_Vector, T.ne_Empty_ZeroBottom, T.ne_ZeroBottom_Empty, ↓reduceIte, Nat.reduceLeDiff, Nat.reduceLT, reduceCtorEq, isiInt, isiBool, isiStr, isiC, isiTup, isiLst, isiOr, nfC, inL, startP, startI, setAll, List.replicate, Nat.reduceSub, Nat.reduceAdd]
      exact k
    · simp (maxSteps := 3000000) (disch := decide) only [↓psE, psO, forall_const, ↓iAdd, ↓iSub, ↓iMul, ↓iDiv, ↓iMod, ↓iPow, ↓iLt, ↓iLe, ↓iGt, ↓iGe, T.ne_Ratio_Vector, T.ne_Ratio_Poly, T.ne_Vector_Ratio, T.ne_Vector_Poly, T.ne_Poly_Ratio, T.ne_Poly_Vector, T.ne_Empty_ZeroBottom, T.ne_ZeroBottom_Empty, ↓reduceIte, Nat.reduceLeDiff, Nat.reduceLT, reduceCtorEq, isiInt, isiBool, isiStr, isiC, isiTup, isiLst, isiOr, nfC, inL, startP, startI, setAll, List.replicate, Nat.reduceSub, Nat.reduceAdd, isiOr, rat]
      exact k

theorem ok_Vector_eq (T : Txt K mg a) (S : Fs K a d) : FnOk P w K mg base (L2.CX P w) 1 a.f_Vector_eq d.d_Vector_eq ["self", "other"] (spP K (P_Vector_eq a)) := by
  refine fa_q (k := 0) S.F_Vector_eq sc_Vector_eq (len_Vector_eq a) (fun cdv A outer s H E hr =>
    (jss_one (js_ret (je_and (je_isiC (kit_c (os := [a.C_Ratio, a.C_Poly]) T.is_Vector T.kc_Vector T.ko_Vector) T.b_isinstance (je_var 1) T.mg_Vector) (je_and (je_eqD hr (je_fld (je_var 0) T.cl_Vector T.na_Vector_tops) (je_fld (je_var 1) T.cl_Vector T.na_Vector_tops)) (je_one (je_eq (je_fld (je_var 0) T.cl_Vector T.na_Vector_bottom) (je_fld (je_var 1) T.cl_Vector T.na_Vector_bottom)))))))) ?pure
  case pure =>
    rintro xs y Q ⟨ts, b, z, rfl, h⟩
    rcases h with ⟨us, c, rfl, ⟨hl, hk⟩, h⟩ | ⟨hz, h⟩
    · simp (maxSteps := 3000000) (disch := decide) only [↓psE, psO, forall_const, ↓iAdd, ↓iSub, ↓iMul, ↓iDiv, ↓iMod, ↓iPow, ↓iLt, ↓iLe, ↓iGt, ↓iGe, T.ne_Ratio_Vector, T.ne_Ratio_Poly, T.ne_Vector_Ratio, T.ne_Vector_Poly, T.ne_Poly_Ratio, T.ne_Poly_Vector, T.ne_Empty_ZeroBottom, T.ne_ZeroBottom_Empty, ↓reduceIte, Nat.reduceLeDiff, Nat.reduceLT, reduceCtorEq, isiInt, isiBool, isiStr, isiC, isiTup, isiLst, isiOr, nfC, inL, startP, startI, setAll, List.replicate, Nat.reduceSub, Nat.reduceAdd, toD_tup, toD_lst, shaped_tup, eqv_tup]
      split
      · rename_i e
        subst e
        simpa using h
      · rename_i e
        have : (ts == us) = false := beq_eq_false_iff_ne.mpr e
        rw [this] at h
        exact h
    · show (match isiC a.C_Vector [a.C_Ratio, a.C_Poly] z with
        | some b => _
        | none => False : Prop)
      rw [hz]
      exact h

theorem ok_Vector_dot (T : Txt K mg a) (S : Fs K a d) : FnOk P w K mg base (L2.CX P w) 5 a.f_Vector_dot d.d_Vector_dot ["self", "other"] (spP K (P_Vector_dot a)) := by
  refine fa_q (k := 4) S.F_Vector_dot sc_Vector_dot (len_Vector_dot a) (fun cdv A outer s H E hr =>
    (jss_cons (js_if (jt_ne (je_lenOwn T.fi_Vector_len T.isf_Vector_len (ok_Vector_len T S) (hr.mono (by decide)) S.B_Vector_len T.b_len (ja_cons (je_var 0) ja_nil)) (je_lenOwn T.fi_Vector_len T.isf_Vector_len (ok_Vector_len T S) (hr.mono (by decide)) S.B_Vector_len T.b_len (ja_cons (je_var 1) ja_nil))) (jss_one (js_raise rfl (takes_of rfl rfl rfl rfl) (pmk_x T.ox_SizeMismatch T.xi_SizeMismatch T.xt_SizeMismatch (ok_xSizeMismatch T S) xf_SizeMismatch (hr.mono (by decide)) S.XB_SizeMismatch (by decide) T.mg_SizeMismatch (ja_cons (je_lenOwn T.fi_Vector_len T.isf_Vector_len (ok_Vector_len T S) (hr.mono (by decide)) S.B_Vector_len T.b_len (ja_cons (je_var 0) ja_nil)) (ja_cons (je_lenOwn T.fi_Vector_len T.isf_Vector_len (ok_Vector_len T S) (hr.mono (by decide)) S.B_Vector_len T.b_len (ja_cons (je_var 1) ja_nil)) ja_nil))))) jss_nil)
      (jss_one (js_ret (je_make T.mk_Ratio (ok_Ratio_init T S) (hr.mono (by decide)) T.mg_Ratio S.B_Ratio_init .nil (fun _ => .nil) (tkOf (takes_of rfl rfl rfl rfl)) (ja_cons (je_call (ok_integer_dot T S) (hr.mono (by decide)) T.mg_integer_dot S.F_integer_dot.kp S.B_integer_dot .nil (fun _ => .nil) (tkOf (takes_of rfl rfl rfl rfl)) (ja_cons (je_fld (je_var 0) T.cl_Vector T.na_Vector_tops) (ja_cons (je_fld (je_var 1) T.cl_Vector T.na_Vector_tops) ja_nil))) (ja_cons (je_mul (je_fld (je_var 0) T.cl_Vector T.na_Vector_bottom) (je_fld (je_var 1) T.cl_Vector T.na_Vector_bottom)) ja_nil))))))) ?pure
  case pure =>
    rintro xs y Q ⟨ts, b, us, c, rfl, ⟨⟨t1, t2, t3, t4, t5⟩, ⟨u1, u2, u3, u4, u5⟩⟩, h1, h2⟩
    simp (maxSteps := 3000000) (disch := decide) only [↓psE, psO, forall_const, ↓iAdd, ↓iSub, ↓iMul, ↓iDiv, ↓iMod, ↓iPow, ↓iLt, ↓iLe, ↓iGt, ↓iGe, T.ne_Ratio_Vector, T.ne_Ratio_Poly, T.ne_Vector_Ratio, T.ne_Vector_Poly, T.ne_Poly_Ratio, T.ne_Poly_Vector, T.ne_Empty_ZeroBottom, T.ne_ZeroBottom_Empty, ↓reduceIte, Nat.reduceLeDiff, Nat.reduceLT, reduceCtorEq, isiInt, isiBool, isiStr, isiC, isiTup, isiLst, isiOr, nfC, inL, startP, startI, setAll, List.replicate, Nat.reduceSub, Nat.reduceAdd, ↓i_Vector_len]
    refine ⟨by omega, by omega, by omega, by omega, ?_⟩
    by_cases e : ts.length = us.length
    · have e' : (ts.length : Int) = us.length := by omega
      rw [if_neg (fun z => z e')]
      refine ⟨_, _, rfl, ⟨fun t h => (t1 t h).mono (by decide), fun t h => (u1 t h).mono (by decide), by omega⟩, ?_⟩
      simp (maxSteps := 3000000) (disch := decide) only [↓psE, psO, forall_const, ↓iAdd, ↓iSub, ↓iMul, ↓iDiv, ↓iMod, ↓iPow, ↓iLt, ↓iLe, ↓iGt, ↓iGe, T.ne_Ratio_Vector, T.ne_Ratio_Poly, T.ne_Vector_Ratio, T.ne_Vector_Poly, T.ne_Poly_Ratio, T.ne_Poly_Vector, T.ne_Empty_ZeroBottom, T.ne_ZeroBottom_Empty, ↓reduceIte, Nat.reduceLeDiff, Nat.reduceLT, reduceCtorEq, isiInt, isiBool, isiStr, isiC, isiTup, isiLst, isiOr, nfC, inL, startP, startI, setAll, List.replicate, Nat.reduceSub, Nat.reduceAdd, ↓i_Ratio_init]
      exact ⟨mulW t2 u2 (by decide), fun z => absurd z (Int.mul_ne_zero t3 u3), fun _ => ⟨(t2.mul u2).mono (by decide), h2 e⟩⟩
    · have e' : ¬ (ts.length : Int) = us.length := by omega
      rw [if_pos e']
      exact ⟨by omega, by omega, by omega, by omega, h1 e⟩

theorem ok_Vector_unit (T : Txt K mg a) (S : Fs K a d) : FnOk P w K mg base (L2.CX P w) 5 a.f_Vector_unit d.d_Vector_unit ["size", "place"] (spP K (P_Vector_unit a)) := by
  obtain ⟨ds_Vector_init_1, hd_Vector_init_1, hb_Vector_init_1⟩ := S.B_Vector_init_1
  refine fa_q (k := 4) S.F_Vector_unit sc_Vector_unit (len_Vector_unit a) (fun cdv A outer s H E hr =>
    (jss_one (js_ret (je_make (dps := [.int 1]) T.mk_Vector (ok_Vector_init T S) (hr.mono (by decide)) T.mg_Vector hb_Vector_init_1 hd_Vector_init_1 (fun _ => (.cons (.int 1) .nil)) (tkOf (takes_of rfl rfl rfl rfl)) (ja_cons (je_lc (own := [("index", 2)]) (g := (gName 2)) (t := (tName 2)) rfl sc_Vector_unit.nd (ji_range1 T.b_range (ja_cons (je_var 0) ja_nil)) (blkOk_by (N := ["size", "place", "index"]) (sc := defScope s_Vector_unit) (by decide +kernel)) (tg_name 2) (fun _ _ _ _ _ => pg_name (i := 2) sc_Vector_unit.nd rfl (Or.inl rfl)) (fun _ _ _ _ _ => jts_nil) (fun _ _ _ _ _ => (je_if (jt_eq (je_var 2) (je_var 1)) je_int je_int))) ja_nil))))) ?pure
  case pure =>
    rintro xs y Q ⟨n, k, rfl, ⟨h0, h1⟩, h⟩
    simp (maxSteps := 3000000) (disch := decide) only [↓psE, psO, forall_const, ↓iAdd, ↓iSub, ↓iMul, ↓iDiv, ↓iMod, ↓iPow, ↓iLt, ↓iLe, ↓iGt, ↓iGe, T.ne_Ratio_Vector, T.ne_Ratio_Poly, T.ne_Vector_Ratio, T.ne_Vector_Poly, T.ne_Poly_Ratio, T.ne_Poly_Vector, T.ne_Empty_ZeroBottom, T.ne_ZeroBottom_Empty, ↓reduceIte, Nat.reduceLeDiff, Nat.reduceLT, reduceCtorEq, isiInt, isiBool, isiStr, isiC, isiTup, isiLst, isiOr, nfC, inL, startP, startI, setAll, List.replicate, Nat.reduceSub, Nat.reduceAdd]
    refine ⟨by omega, by omega, by rw [rangeP_len]; omega, ?_⟩
    rw [Int.toNat_natCast]
    refine coll_range (fun i => PV.int (if ((i : Nat) : Int) = k then 1 else 0)) n (fun i hi R r => ?_) ?_
    · simp (maxSteps := 3000000) (disch := decide) only [↓psE, psO, forall_const, ↓iAdd, ↓iSub, ↓iMul, ↓iDiv, ↓iMod, ↓iPow, ↓iLt, ↓iLe, ↓iGt, ↓iGe, T.ne_Ratio_Vector, T.ne_Ratio_Poly, T.ne_Vector_Ratio, T.ne_Vector_Poly, T.ne_Poly_Ratio, T.ne_Poly_Vector, T.ne_Empty_ZeroBottom, T.ne_ZeroBottom_Empty, ↓reduceIte, Nat.reduceLeDiff, Nat.reduceLT, reduceCtorEq, isiInt, isiBool, isiStr, isiC, isiTup, isiLst, isiOr, nfC, inL, startP, startI, setAll, List.replicate, Nat.reduceSub, Nat.reduceAdd, Int.zero_add]
      split
      · rename_i e
        rw [if_pos e] at r
        exact r
      · rename_i e
        rw [if_neg e] at r
        exact r
    · have hne : unitL n k ≠ [] := by
        intro z
        have := congrArg List.length z
        simp [unitL] at this
        omega
      refine ⟨unitL n k, 1, _, rfl, .inl ?_, fun z => absurd z hne, fun _ z => absurd z (by decide), fun _ _ => ⟨⟨?_, ?_⟩, ?_⟩⟩
      · unfold unitL lstI
        rw [List.map_map]
        rfl
      · simp [unitL]
        omega
      · exact sz_small (by decide) (by decide) (by decide)
      · rw [(low_one _).2.1, (low_one _).2.2]
        exact h

theorem ok_Vector_zero (T : Txt K mg a) (S : Fs K a d) : FnOk P w K mg base (L2.CX P w) 5 a.f_Vector_zero d.d_Vector_zero ["size"] (spP K (P_Vector_zero a)) := by
  obtain ⟨ds_Vector_init_1, hd_Vector_init_1, hb_Vector_init_1⟩ := S.B_Vector_init_1
  refine fa_q (k := 4) S.F_Vector_zero sc_Vector_zero (len_Vector_zero a) (fun cdv A outer s H E hr =>
    (jss_one (js_ret (je_make (dps := [.int 1]) T.mk_Vector (ok_Vector_init T S) (hr.mono (by decide)) T.mg_Vector hb_Vector_init_1 hd_Vector_init_1 (fun _ => (.cons (.int 1) .nil)) (tkOf (takes_of rfl rfl rfl rfl)) (ja_cons (je_lc (own := [("_", 1)]) (g := (gName 1)) (t := (tName 1)) rfl sc_Vector_zero.nd (ji_range1 T.b_range (ja_cons (je_var 0) ja_nil)) (blkOk_by (N := ["size", "_"]) (sc := defScope s_Vector_zero) (by decide +kernel)) (tg_name 1) (fun _ _ _ _ _ => pg_name (i := 1) sc_Vector_zero.nd rfl (Or.inl rfl)) (fun _ _ _ _ _ => jts_nil) (fun _ _ _ _ _ => je_int)) ja_nil))))) ?pure
  case pure =>
    rintro xs y Q ⟨n, rfl, ⟨h0, h1⟩, h⟩
    simp (maxSteps := 3000000) (disch := decide) only [↓psE, psO, forall_const, ↓iAdd, ↓iSub, ↓iMul, ↓iDiv, ↓iMod, ↓iPow, ↓iLt, ↓iLe, ↓iGt, ↓iGe, T.ne_Ratio_Vector, T.ne_Ratio_Poly, T.ne_Vector_Ratio, T.ne_Vector_Poly, T.ne_Poly_Ratio, T.ne_Poly_Vector, T.ne_Empty_ZeroBottom, T.ne_ZeroBottom_Empty, ↓reduceIte, Nat.reduceLeDiff, Nat.reduceLT, reduceCtorEq, isiInt, isiBool, isiStr, isiC, isiTup, isiLst, isiOr, nfC, inL, startP, startI, setAll, List.replicate, Nat.reduceSub, Nat.reduceAdd]
    refine ⟨by omega, by omega, by rw [rangeP_len]; omega, ?_⟩
    rw [Int.toNat_natCast]
    refine coll_range (fun i => PV.int 0) n (fun i hi R r => ?_) ?_
    · simp (maxSteps := 3000000) (disch := decide) only [↓psE, psO, forall_const, ↓iAdd, ↓iSub, ↓iMul, ↓iDiv, ↓iMod, ↓iPow, ↓iLt, ↓iLe, ↓iGt, ↓iGe, T.ne_Ratio_Vector, T.ne_Ratio_Poly, T.ne_Vector_Ratio, T.ne_Vector_Poly, T.ne_Poly_Ratio, T.ne_Poly_Vector, T.ne_Empty_ZeroBottom, T.ne_ZeroBottom_Empty, ↓reduceIte, Nat.reduceLeDiff, Nat.reduceLT, reduceCtorEq, isiInt, isiBool, isiStr, isiC, isiTup, isiLst, isiOr, nfC, inL, startP, startI, setAll, List.replicate, Nat.reduceSub, Nat.reduceAdd]
      exact r
    · have hne : ((List.range n).map fun _ => (0 : Int)) ≠ [] := by
        intro z
        have := congrArg List.length z
        simp at this
        omega
      refine ⟨(List.range n).map fun _ => 0, 1, _, rfl, .inl ?_, fun z => absurd z hne, fun _ z => absurd z (by decide), fun _ _ => ⟨⟨?_, ?_⟩, ?_⟩⟩
      · unfold lstI
        rw [List.map_map]
        rfl
      · simp
        omega
      · exact sz_small (by decide) (by decide) (by decide)
      · rw [(low_one _).2.1, (low_one _).2.2]
        exact h

theorem ok_Vector_of (T : Txt K mg a) (S : Fs K a d) : FnOk P w K mg base (L2.CX P w) 5 a.f_Vector_of d.d_Vector_of ["ratios"] (spP K (P_Vector_of a)) := by
  refine fa_q (k := 4) S.F_Vector_of sc_Vector_of (len_Vector_of a) (fun cdv A outer s H E hr =>
    (jss_cons (js_unp [1, 2] rfl (pgs_cons (pg_name (i := 1) sc_Vector_of.nd rfl (Or.inl rfl)) (pgs_cons (pg_name (i := 2) sc_Vector_of.nd rfl (Or.inl rfl)) pgs_nil)) (je_call (ok_over_one_bottom T S) (hr.mono (by decide)) T.mg_over_one_bottom S.F_over_one_bottom.kp S.B_over_one_bottom .nil (fun _ => .nil) (tkOf (takes_of rfl rfl rfl rfl)) (ja_cons (je_var 0) ja_nil)))
      (jss_one (js_ret (je_make T.mk_Vector (ok_Vector_init T S) (hr.mono (by decide)) T.mg_Vector S.B_Vector_init .nil (fun _ => .nil) (tkOf (takes_of rfl rfl rfl rfl)) (ja_cons (je_var 1) (ja_cons (je_var 2) ja_nil))))))) ?pure
  case pure =>
    rintro xs y Q ⟨rs, s, rfl, hs, g, h0, h1⟩
    simp (maxSteps := 3000000) (disch := decide) only [↓psE, psO, forall_const, ↓iAdd, ↓iSub, ↓iMul, ↓iDiv, ↓iMod, ↓iPow, ↓iLt, ↓iLe, ↓iGt, ↓iGe, T.ne_Ratio_Vector, T.ne_Ratio_Poly, T.ne_Vector_Ratio, T.ne_Vector_Poly, T.ne_Poly_Ratio, T.ne_Poly_Vector, T.ne_Empty_ZeroBottom, T.ne_ZeroBottom_Empty, ↓reduceIte, Nat.reduceLeDiff, Nat.reduceLT, reduceCtorEq, isiInt, isiBool, isiStr, isiC, isiTup, isiLst, isiOr, nfC, inL, startP, startI, setAll, List.replicate, Nat.reduceSub, Nat.reduceAdd]
    refine ⟨rs, s, rfl, hs, g, ?_⟩
    simp (maxSteps := 3000000) (disch := decide) only [↓psE, psO, forall_const, ↓iAdd, ↓iSub, ↓iMul, ↓iDiv, ↓iMod, ↓iPow, ↓iLt, ↓iLe, ↓iGt, ↓iGe, T.ne_Ratio_Vector, T.ne_Ratio_Poly, T.ne_Vector_Ratio, T.ne_Vector_Poly, T.ne_Poly_Ratio, T.ne_Poly_Vector, T.ne_Empty_ZeroBottom, T.ne_ZeroBottom_Empty, ↓reduceIte, Nat.reduceLeDiff, Nat.reduceLT, reduceCtorEq, isiInt, isiBool, isiStr, isiC, isiTup, isiLst, isiOr, nfC, inL, startP, startI, setAll, List.replicate, Nat.reduceSub, Nat.reduceAdd, ↓i_initL]
    have e0 : topsOf rs = [] ↔ rs = [] := List.map_eq_nil_iff
    have pos : ∀ r ∈ rs, 0 < r.2 := fun r hr => (g.2 r hr).1
    have hL : 0 < lcmL rs 1 := lcmL_pos pos (by decide)
    have sL : Sz 4000 (lcmL rs 1) := (lcmL_sz (k := 60) (n := 1) (fun r hr => (g.2 r hr).2.1) (by unfold Sz; decide)).mono (by have := g.1; omega)
    refine ⟨fun e => h0 (e0.mp e), fun _ z => absurd z (by omega), fun e _ => ⟨⟨?_, sL.mono (by decide)⟩, h1 fun z => e (e0.mpr z)⟩⟩
    unfold topsOf
    rw [List.length_map]
    have := g.1
    omega

theorem ok_Poly_init (T : Txt K mg a) (S : Fs K a d) : FnOk P w K mg base (L2.CX P w) 3 a.f_Poly_init d.d_Poly_init ["self", "tops", "bottom"] (spI K a.C_Poly (I_Poly_init a)) := by
  refine fa_qI (k := 2) S.F_Poly_init sc_Poly_init (len_Poly_init a) (fun cdv A outer s H E hr =>
    (jss_cons (js_if (jt_eq (je_var 2) je_int) (jss_one (js_raise rfl (takes_of rfl rfl rfl rfl) (pmk_x0 T.ox_ZeroBottom T.xi_ZeroBottom T.xt_ZeroBottom (ok_xZeroBottom T S) xf_ZeroBottom (hr.mono (by decide)) S.XB_ZeroBottom T.mg_ZeroBottom))) jss_nil)
      (jss_cons (js_set 3 sc_Poly_init.nd (je_len T.b_len (ja_cons (je_var 1) ja_nil)))
      (jss_cut (js_while (passes_of rfl) (jt_w (jw_and (jt_gt (je_var 3) je_int) (jw_and1 (jt_eq (je_ix (je_var 1) (je_sub (je_var 3) je_int)) je_int))))
        (jss_one (js_set 3 sc_Poly_init.nd (je_sub (je_var 3) je_int))))
      (jss_cons (js_set 4 sc_Poly_init.nd (je_call (ok_shared_part T S) (hr.mono (by decide)) T.mg_shared_part S.F_shared_part.kp S.B_shared_part .nil (fun _ => .nil) (tkOf (takes_of rfl rfl rfl rfl)) (ja_cons (je_var 1) (ja_cons (je_var 2) ja_nil))))
      (jss_cons (js_fld 0 T.cl_Poly T.na_Poly_tops (je_tuple T.b_tuple (ja_cons (je_lc (own := [("top", 5)]) (g := (gName 5)) (t := (tName 5)) rfl sc_Poly_init.nd (ji_list (je_sl (je_var 1) jo_none (jo_some (je_var 3)))) (blkOk_by (N := ["self", "tops", "bottom", "count", "part", "top"]) (sc := defScope s_Poly_init) (by decide +kernel)) (tg_name 5) (fun _ _ _ _ _ => pg_name (i := 5) sc_Poly_init.nd rfl (Or.inl rfl)) (fun _ _ _ _ _ => jts_nil) (fun _ _ _ _ _ => (je_div (je_var 5) (je_var 4)))) ja_nil)))
      (jss_one (js_fld 0 T.cl_Poly T.na_Poly_bottom (je_div (je_var 2) (je_var 4)))))))))) ?pure
  case pure =>
    rintro ad xs y Q ⟨ts, b, rfl, h0, h1⟩
    simp (maxSteps := 3000000) (disch := decide) only [↓psE, psO, forall_const, ↓iAdd, ↓iSub, ↓iMul, ↓iDiv, ↓iMod, ↓iPow, ↓iLt, ↓iLe, ↓iGt, ↓iGe, T.ne_Ratio_Vector, T.ne_Ratio_Poly, T.ne_Vector_Ratio, T.ne_Vector_Poly, T.ne_Poly_Ratio, T.ne_Poly_Vector, T.ne_Empty_ZeroBottom, T.ne_ZeroBottom_Empty, ↓reduceIte, Nat.reduceLeDiff, Nat.reduceLT, reduceCtorEq, isiInt, isiBool, isiStr, isiC, isiTup, isiLst, isiOr, nfC, inL, startP, startI, setAll, List.replicate, Nat.reduceSub, Nat.reduceAdd]
    split
    · rename_i e
      exact h0 e
    rename_i e
    obtain ⟨⟨sb, hl⟩, h⟩ := h1 e
    refine cutS [3] (fun vs => vs = [some (.pv (.int (trim ts).length))]) ?_ ?_
    · refine whileS [3] (fun m vs => m ≤ ts.length ∧ (∀ (j : Nat) (t : Int), m ≤ j → ts[j]? = some t → t = 0) ∧ vs = [some (.pv (.int m))]) ts.length [_] rfl ⟨Nat.le_refl _, fun j t hj ht => absurd (List.getElem?_eq_some_iff.mp ht).1 (by omega), by rw [List.length_map]⟩ ?_
      rintro m vs N hN ⟨hm, hz, rfl⟩
      simp (maxSteps := 3000000) (disch := decide) only [↓psE, psO, forall_const, ↓iAdd, ↓iSub, ↓iMul, ↓iDiv, ↓iMod, ↓iPow, ↓iLt, ↓iLe, ↓iGt, ↓iGe, T.ne_Ratio_Vector, T.ne_Ratio_Poly, T.ne_Vector_Ratio, T.ne_Vector_Poly, T.ne_Poly_Ratio, T.ne_Poly_Vector, T.ne_Empty_ZeroBottom, T.ne_ZeroBottom_Empty, ↓reduceIte, Nat.reduceLeDiff, Nat.reduceLT, reduceCtorEq, isiInt, isiBool, isiStr, isiC, isiTup, isiLst, isiOr, nfC, inL, startP, startI, setAll, List.replicate, Nat.reduceSub, Nat.reduceAdd]
      by_cases hm0 : m = 0
      · subst hm0
        have := trim_take (n := 0) (Nat.zero_le _) hz (.inl rfl)
        simp (maxSteps := 3000000) (disch := decide) only [↓psE, psO, forall_const, ↓iAdd, ↓iSub, ↓iMul, ↓iDiv, ↓iMod, ↓iPow, ↓iLt, ↓iLe, ↓iGt, ↓iGe, T.ne_Ratio_Vector, T.ne_Ratio_Poly, T.ne_Vector_Ratio, T.ne_Vector_Poly, T.ne_Poly_Ratio, T.ne_Poly_Vector, T.ne_Empty_ZeroBottom, T.ne_ZeroBottom_Empty, ↓reduceIte, Nat.reduceLeDiff, Nat.reduceLT, reduceCtorEq, isiInt, isiBool, isiStr, isiC, isiTup, isiLst, isiOr, nfC, inL, startP, startI, setAll, List.replicate, Nat.reduceSub, Nat.reduceAdd, show ¬ (0 : Int) < ((0 : Nat) : Int) from by decide]
        exact ⟨[_], rfl, by rw [← this]; rfl⟩
      · have hlt : m - 1 < ts.length := by omega
        have hg : atI (ts.map PV.int) ((m : Int) - 1) = some (.int ts[m - 1]) := by
          rw [show (m : Int) - 1 = ((m - 1 : Nat) : Int) by omega]
          exact atI_get (List.getElem?_eq_getElem hlt)
        simp (maxSteps := 3000000) (disch := decide) only [↓psE, psO, forall_const, ↓iAdd, ↓iSub, ↓iMul, ↓iDiv, ↓iMod, ↓iPow, ↓iLt, ↓iLe, ↓iGt, ↓iGe, T.ne_Ratio_Vector, T.ne_Ratio_Poly, T.ne_Vector_Ratio, T.ne_Vector_Poly, T.ne_Poly_Ratio, T.ne_Poly_Vector, T.ne_Empty_ZeroBottom, T.ne_ZeroBottom_Empty, ↓reduceIte, Nat.reduceLeDiff, Nat.reduceLT, reduceCtorEq, isiInt, isiBool, isiStr, isiC, isiTup, isiLst, isiOr, nfC, inL, startP, startI, setAll, List.replicate, Nat.reduceSub, Nat.reduceAdd, show (0 : Int) < (m : Int) from by omega, hg]
        by_cases hz0 : ts[m - 1] = 0
        · rw [if_pos hz0]
          refine hN (m - 1) [_] (by omega) ⟨by omega, fun j t hj ht => ?_, by rw [show ((m - 1 : Nat) : Int) = (m : Int) - 1 by omega]⟩
          by_cases hj2 : j = m - 1
          · subst hj2
            rw [List.getElem?_eq_getElem hlt] at ht
            cases ht
            exact hz0
          · exact hz j t (by omega) ht
        · rw [if_neg hz0]
          have := trim_take hm hz (.inr ⟨ts[m - 1], List.getElem?_eq_getElem hlt, hz0⟩)
          exact ⟨[_], rfl, by rw [← this, List.length_take, Nat.min_eq_left hm]; rfl⟩
    · rintro vs rfl
      simp (maxSteps := 3000000) (disch := decide) only [↓psE, psO, forall_const, ↓iAdd, ↓iSub, ↓iMul, ↓iDiv, ↓iMod, ↓iPow, ↓iLt, ↓iLe, ↓iGt, ↓iGe, T.ne_Ratio_Vector, T.ne_Ratio_Poly, T.ne_Vector_Ratio, T.ne_Vector_Poly, T.ne_Poly_Ratio, T.ne_Poly_Vector, T.ne_Empty_ZeroBottom, T.ne_ZeroBottom_Empty, ↓reduceIte, Nat.reduceLeDiff, Nat.reduceLT, reduceCtorEq, isiInt, isiBool, isiStr, isiC, isiTup, isiLst, isiOr, nfC, inL, startP, startI, setAll, List.replicate, Nat.reduceSub, Nat.reduceAdd]
      have tl := trim_len ts
      have ht : ts.take (trim ts).length = trim ts := trim_len_take ts
      have hc := cut_nn ts 0 (trim ts).length (Nat.zero_le _) tl
      refine ⟨ts, b, _, rfl, .inl rfl, ?_⟩
      have hc2 : cutP (ts.map PV.int) none (some ((trim ts).length : Int)) = (trim ts).map PV.int := by
        have : cutP (ts.map PV.int) none (some ((trim ts).length : Int)) = cutP (ts.map PV.int) (some ((0 : Nat) : Int)) (some ((trim ts).length : Int)) := by
          unfold cutP
          rw [HT.sIx_none, HT.sIx_nat _ _ 0, Nat.zero_min]
        rw [this, hc.1, List.drop_zero, Nat.sub_zero, ht]
      simp (maxSteps := 3000000) (disch := decide) only [↓psE, psO, forall_const, ↓iAdd, ↓iSub, ↓iMul, ↓iDiv, ↓iMod, ↓iPow, ↓iLt, ↓iLe, ↓iGt, ↓iGe, T.ne_Ratio_Vector, T.ne_Ratio_Poly, T.ne_Vector_Ratio, T.ne_Vector_Poly, T.ne_Poly_Ratio, T.ne_Poly_Vector, T.ne_Empty_ZeroBottom, T.ne_ZeroBottom_Empty, ↓reduceIte, Nat.reduceLeDiff, Nat.reduceLT, reduceCtorEq, isiInt, isiBool, isiStr, isiC, isiTup, isiLst, isiOr, nfC, inL, startP, startI, setAll, List.replicate, Nat.reduceSub, Nat.reduceAdd, hc2]
      refine ⟨by rw [List.length_map]; omega, coll_ints (fun t => t.fdiv (shared ts b)) (trim ts) (fun t ht R r => ?_) ?_⟩
      · simp (maxSteps := 3000000) (disch := decide) only [↓psE, psO, forall_const, ↓iAdd, ↓iSub, ↓iMul, ↓iDiv, ↓iMod, ↓iPow, ↓iLt, ↓iLe, ↓iGt, ↓iGe, T.ne_Ratio_Vector, T.ne_Ratio_Poly, T.ne_Vector_Ratio, T.ne_Vector_Poly, T.ne_Poly_Ratio, T.ne_Poly_Vector, T.ne_Empty_ZeroBottom, T.ne_ZeroBottom_Empty, ↓reduceIte, Nat.reduceLeDiff, Nat.reduceLT, reduceCtorEq, isiInt, isiBool, isiStr, isiC, isiTup, isiLst, isiOr, nfC, inL, startP, startI, setAll, List.replicate, Nat.reduceSub, Nat.reduceAdd]
        exact ⟨divW (sharedV_sz sb e) (sharedV_ne e) (by decide), r⟩
      · refine ⟨divW (sharedV_sz sb e) (sharedV_ne e) (by decide), ?_⟩
        unfold normT normB at h
        rw [shared_trim] at h
        exact h

theorem ok_Poly_eq (T : Txt K mg a) (S : Fs K a d) : FnOk P w K mg base (L2.CX P w) 1 a.f_Poly_eq d.d_Poly_eq ["self", "other"] (spP K (P_Poly_eq a)) := by
  refine fa_q (k := 0) S.F_Poly_eq sc_Poly_eq (len_Poly_eq a) (fun cdv A outer s H E hr =>
    (jss_one (js_ret (je_and (je_isiC (kit_c (os := [a.C_Ratio, a.C_Vector]) T.is_Poly T.kc_Poly T.ko_Poly) T.b_isinstance (je_var 1) T.mg_Poly) (je_and (je_eqD hr (je_fld (je_var 0) T.cl_Poly T.na_Poly_tops) (je_fld (je_var 1) T.cl_Poly T.na_Poly_tops)) (je_one (je_eq (je_fld (je_var 0) T.cl_Poly T.na_Poly_bottom) (je_fld (je_var 1) T.cl_Poly T.na_Poly_bottom)))))))) ?pure
  case pure =>
    rintro xs y Q ⟨fs, z, rfl, hz, h⟩
    show (match isiC a.C_Poly [a.C_Ratio, a.C_Vector] z with
      | some b => _
      | none => False : Prop)
    rw [hz]
    exact h

theorem ok_law_cell (T : Txt K mg a) (S : Fs K a d) : FnOk P w K mg base (L2.CX P w) 1 a.f_law_cell d.d_law_cell ["script", "k"] (spP K (P_law_cell a)) := by
  refine fa_q (k := 0) S.F_law_cell sc_law_cell (len_law_cell a) (fun cdv A outer s H E hr =>
    (jss_cons (js_if (jt_lt (je_var 1) (je_len T.b_len (ja_cons (je_var 0) ja_nil))) (jss_one (js_ret (je_abs T.b_abs (ja_cons (je_ix (je_var 0) (je_var 1)) ja_nil)))) jss_nil)
      (jss_cons (js_set 2 sc_law_cell.nd je_int)
      (jss_cut (js_forL 3 (passes_of rfl) rfl sc_law_cell.nd (je_sl (je_var 0) jo_none (jo_some je_int))
        (jss_one (js_set 2 sc_law_cell.nd (je_mod (je_toint T.b_int (ja_cons (je_add (je_mul (je_var 2) je_int) (je_mod (je_toint T.b_int (ja_cons (je_abs T.b_abs (ja_cons (je_var 3) ja_nil)) ja_nil)) je_int)) ja_nil)) je_int))))
      (jss_one (js_ret (je_add (je_add (je_mul (je_var 2) je_int) (je_mul (je_var 1) je_int)) je_int))))))) ?pure
  case pure =>
    rintro xs y Q ⟨ns, k, rfl, hk, hn, h⟩
    simp (maxSteps := 3000000) (disch := decide) only [↓psE, psO, forall_const, ↓iAdd, ↓iSub, ↓iMul, ↓iDiv, ↓iMod, ↓iPow, ↓iLt, ↓iLe, ↓iGt, ↓iGe, T.ne_Ratio_Vector, T.ne_Ratio_Poly, T.ne_Vector_Ratio, T.ne_Vector_Poly, T.ne_Poly_Ratio, T.ne_Poly_Vector, T.ne_Empty_ZeroBottom, T.ne_ZeroBottom_Empty, ↓reduceIte, Nat.reduceLeDiff, Nat.reduceLT, reduceCtorEq, isiInt, isiBool, isiStr, isiC, isiTup, isiLst, isiOr, nfC, inL, startP, startI, setAll, List.replicate, Nat.reduceSub, Nat.reduceAdd, lstI]
    split
    · rename_i hl
      obtain ⟨n, rfl⟩ := Int.eq_ofNat_of_zero_le hk
      rw [List.length_map] at hl
      have hl : n < ns.length := by omega
      rw [show atI (ns.map PV.int) (n : Int) = some (.int ns[n]) by rw [atI_nth, List.getElem?_map, List.getElem?_eq_getElem hl]; rfl]
      exact h _
    · refine ⟨fun ρ => ∃ c v, ρ = [some (.pv (.lst (ns.map PV.int))), some (.pv (.int k)), some (.pv (.int c)), v], ?_, ?_⟩
      · simp (maxSteps := 3000000) (disch := decide) only [↓psE, psO, forall_const, ↓iAdd, ↓iSub, ↓iMul, ↓iDiv, ↓iMod, ↓iPow, ↓iLt, ↓iLe, ↓iGt, ↓iGe, T.ne_Ratio_Vector, T.ne_Ratio_Poly, T.ne_Vector_Ratio, T.ne_Vector_Poly, T.ne_Poly_Ratio, T.ne_Poly_Vector, T.ne_Empty_ZeroBottom, T.ne_ZeroBottom_Empty, ↓reduceIte, Nat.reduceLeDiff, Nat.reduceLT, reduceCtorEq, isiInt, isiBool, isiStr, isiC, isiTup, isiLst, isiOr, nfC, inL, startP, startI, setAll, List.replicate, Nat.reduceSub, Nat.reduceAdd]
        refine loop_at (fun _ ρ => ∃ c v, ρ = [some (.pv (.lst (ns.map PV.int))), some (.pv (.int k)), some (.pv (.int c)), v]) ⟨_, _, rfl⟩ ?_ (fun _ h => h)
        rintro j x ρ N hx hN ⟨c, v, rfl⟩
        obtain ⟨z, rfl⟩ : ∃ z, x = PV.int z := by
          have hm : x ∈ ns.map PV.int := by
            have := List.mem_of_getElem? hx
            unfold cutP at this
            exact List.mem_of_mem_drop (List.mem_of_mem_take this)
          obtain ⟨z, _, rfl⟩ := List.mem_map.mp hm
          exact ⟨z, rfl⟩
        simp (maxSteps := 3000000) (disch := decide) only [↓psE, psO, forall_const, ↓iAdd, ↓iSub, ↓iMul, ↓iDiv, ↓iMod, ↓iPow, ↓iLt, ↓iLe, ↓iGt, ↓iGe, T.ne_Ratio_Vector, T.ne_Ratio_Poly, T.ne_Vector_Ratio, T.ne_Vector_Poly, T.ne_Poly_Ratio, T.ne_Poly_Vector, T.ne_Empty_ZeroBottom, T.ne_ZeroBottom_Empty, ↓reduceIte, Nat.reduceLeDiff, Nat.reduceLT, reduceCtorEq, isiInt, isiBool, isiStr, isiC, isiTup, isiLst, isiOr, nfC, inL, startP, startI, setAll, List.replicate, Nat.reduceSub, Nat.reduceAdd]
        exact ⟨mulR (by decide), by decide, by decide, hN _ ⟨_, _, rfl⟩⟩
      · rintro ρ' ⟨c, v, rfl⟩
        simp (maxSteps := 3000000) (disch := decide) only [↓psE, psO, forall_const, ↓iAdd, ↓iSub, ↓iMul, ↓iDiv, ↓iMod, ↓iPow, ↓iLt, ↓iLe, ↓iGt, ↓iGe, T.ne_Ratio_Vector, T.ne_Ratio_Poly, T.ne_Vector_Ratio, T.ne_Vector_Poly, T.ne_Poly_Ratio, T.ne_Poly_Vector, T.ne_Empty_ZeroBottom, T.ne_ZeroBottom_Empty, ↓reduceIte, Nat.reduceLeDiff, Nat.reduceLT, reduceCtorEq, isiInt, isiBool, isiStr, isiC, isiTup, isiLst, isiOr, nfC, inL, startP, startI, setAll, List.replicate, Nat.reduceSub, Nat.reduceAdd]
        exact ⟨mulR (by decide), mulR (by decide), h _⟩

theorem ok_law_mix (T : Txt K mg a) (S : Fs K a d) : FnOk P w K mg base (L2.CX P w) 1 a.f_law_mix d.d_law_mix ["cell", "k", "at"] (spP K (P_law_mix a)) := by
  refine fa_q (k := 0) S.F_law_mix sc_law_mix (len_law_mix a) (fun cdv A outer s H E hr =>
    (jss_cons (js_set 3 sc_law_mix.nd (je_mod (je_toint T.b_int (ja_cons (je_add (je_add (je_add (je_mul (je_var 0) je_int) (je_mul (je_var 1) je_int)) (je_mul (je_var 2) je_int)) je_int) ja_nil)) je_int))
      (jss_cons (js_set 3 sc_law_mix.nd (je_mod (je_toint T.b_int (ja_cons (je_add (je_add (je_mul (je_var 3) (je_var 3)) (je_mul (je_var 2) je_int)) je_int) ja_nil)) je_int))
      (jss_cons (js_set 3 sc_law_mix.nd (je_mod (je_toint T.b_int (ja_cons (je_add (je_add (je_mul (je_var 3) (je_var 3)) (je_mul (je_var 1) je_int)) je_int) ja_nil)) je_int))
      (jss_one (js_ret (je_mod (je_toint T.b_int (ja_cons (je_var 3) ja_nil)) je_int))))))) ?pure
  case pure =>
    rintro xs y Q ⟨c, k, t, rfl, h⟩
    simp (maxSteps := 3000000) (disch := decide) only [↓psE, psO, forall_const, ↓iAdd, ↓iSub, ↓iMul, ↓iDiv, ↓iMod, ↓iPow, ↓iLt, ↓iLe, ↓iGt, ↓iGe, T.ne_Ratio_Vector, T.ne_Ratio_Poly, T.ne_Vector_Ratio, T.ne_Vector_Poly, T.ne_Poly_Ratio, T.ne_Poly_Vector, T.ne_Empty_ZeroBottom, T.ne_ZeroBottom_Empty, ↓reduceIte, Nat.reduceLeDiff, Nat.reduceLT, reduceCtorEq, isiInt, isiBool, isiStr, isiC, isiTup, isiLst, isiOr, nfC, inL, startP, startI, setAll, List.replicate, Nat.reduceSub, Nat.reduceAdd]
    have e1 : ∀ x : Int, CMul (x % 2147483647) (x % 2147483647) ∨ CMulW (x % 2147483647) (x % 2147483647) := fun x => mulR ⟨by have := Int.emod_nonneg x (by decide : (2147483647 : Int) ≠ 0); omega, by have := Int.emod_lt_of_pos x (by decide : (0 : Int) < 2147483647); omega⟩
    have e2 : ∀ x : Int, CMul (x % 2147483629) (x % 2147483629) ∨ CMulW (x % 2147483629) (x % 2147483629) := fun x => mulR ⟨by have := Int.emod_nonneg x (by decide : (2147483629 : Int) ≠ 0); omega, by have := Int.emod_lt_of_pos x (by decide : (0 : Int) < 2147483629); omega⟩
    exact ⟨mulR (by decide), mulR (by decide), mulR (by decide), by decide, e1 _, mulR (by decide), by decide, e2 _, mulR (by decide), by decide, by decide, h _ (Int.emod_nonneg _ (by decide)) (Int.emod_lt_of_pos _ (by decide))⟩

theorem ok_law_draws (T : Txt K mg a) (S : Fs K a d) : FnOk P w K mg base (L2.CX P w) 2 a.f_law_draws d.d_law_draws ["script", "k", "many"] (spP K (P_law_draws a)) := by
  refine fa_q (k := 1) S.F_law_draws sc_law_draws (len_law_draws a) (fun cdv A outer s H E hr =>
    (jss_cons (js_set 3 sc_law_draws.nd (je_call (ok_law_cell T S) (hr.mono (by decide)) T.mg_law_cell S.F_law_cell.kp S.B_law_cell .nil (fun _ => .nil) (tkOf (takes_of rfl rfl rfl rfl)) (ja_cons (je_var 0) (ja_cons (je_var 1) ja_nil))))
      (jss_cons (js_set 4 sc_law_draws.nd (je_ge (je_var 3) (je_pow je_int je_int)))
      (jss_cons (js_own 5 sc_law_draws.nd ja_nil)
      (jss_cut (js_forR1 6 (passes_of rfl) rfl sc_law_draws.nd T.b_range (ja_cons (je_var 2) ja_nil)
        (jss_one (js_if (jt_w (jw_and (jt_val (je_var 4)) (jw_and1 (jt_gt (je_var 3) je_int)))) (jss_cons (js_app 5 (je_mod (je_toint T.b_int (ja_cons (je_var 3) ja_nil)) je_int) (hpe := pe_bm PySem.F.plainAttrs_list PySem.F.slot_list_append PySem.F.type_list_append mt_append (pv 5) (pa_cons (je_mod (je_toint T.b_int (ja_cons (je_var 3) ja_nil)) je_int) pa_nil)))
      (jss_one (js_set 3 sc_law_draws.nd (je_div (je_var 3) je_int)))) (jss_one (js_app 5 (je_call (ok_law_mix T S) (hr.mono (by decide)) T.mg_law_mix S.F_law_mix.kp S.B_law_mix .nil (fun _ => .nil) (tkOf (takes_of rfl rfl rfl rfl)) (ja_cons (je_var 3) (ja_cons (je_var 1) (ja_cons (je_var 6) ja_nil)))) (hpe := pe_bm PySem.F.plainAttrs_list PySem.F.slot_list_append PySem.F.type_list_append mt_append (pv 5) (pa_cons (je_call (ok_law_mix T S) (hr.mono (by decide)) T.mg_law_mix S.F_law_mix.kp S.B_law_mix .nil (fun _ => .nil) (tkOf (takes_of rfl rfl rfl rfl)) (ja_cons (je_var 3) (ja_cons (je_var 1) (ja_cons (je_var 6) ja_nil)))) pa_nil)))))))
      (jss_freeze 5 (jss_one (js_ret (je_var 5))))))))) ?pure
  case pure =>
    rintro xs y Q ⟨ns, k, m, rfl, hk, hn, hm, hm2, h⟩
    simp (maxSteps := 3000000) (disch := decide) only [↓psE, psO, forall_const, ↓iAdd, ↓iSub, ↓iMul, ↓iDiv, ↓iMod, ↓iPow, ↓iLt, ↓iLe, ↓iGt, ↓iGe, T.ne_Ratio_Vector, T.ne_Ratio_Poly, T.ne_Vector_Ratio, T.ne_Vector_Poly, T.ne_Poly_Ratio, T.ne_Poly_Vector, T.ne_Empty_ZeroBottom, T.ne_ZeroBottom_Empty, ↓reduceIte, Nat.reduceLeDiff, Nat.reduceLT, reduceCtorEq, isiInt, isiBool, isiStr, isiC, isiTup, isiLst, isiOr, nfC, inL, startP, startI, setAll, List.replicate, Nat.reduceSub, Nat.reduceAdd]
    refine ⟨ns, k, rfl, hk, hn, fun c => ?_⟩
    simp (maxSteps := 3000000) (disch := decide) only [↓psE, psO, forall_const, ↓iAdd, ↓iSub, ↓iMul, ↓iDiv, ↓iMod, ↓iPow, ↓iLt, ↓iLe, ↓iGt, ↓iGe, T.ne_Ratio_Vector, T.ne_Ratio_Poly, T.ne_Vector_Ratio, T.ne_Vector_Poly, T.ne_Poly_Ratio, T.ne_Poly_Vector, T.ne_Empty_ZeroBottom, T.ne_ZeroBottom_Empty, ↓reduceIte, Nat.reduceLeDiff, Nat.reduceLT, reduceCtorEq, isiInt, isiBool, isiStr, isiC, isiTup, isiLst, isiOr, nfC, inL, startP, startI, setAll, List.replicate, Nat.reduceSub, Nat.reduceAdd]
    refine ⟨powC, ?_⟩
    generalize decide ((10 : Int) ^ Int.toNat 18 ≤ c) = dg
    refine ⟨fun ρ => ∃ (c : Int) (v : Option Sl) (rs : List Int), (rs.length : Int) = m ∧ (∀ r ∈ rs, 0 ≤ r ∧ r < 1024) ∧ ρ = [some (.pv (lstI ns)), some (.pv (.int k)), some (.pv (.int m)), some (.pv (.int c)), some (.pv (.bl dg)), some (.own (rs.map PV.int)), v], ?_, ?_⟩
    · simp (maxSteps := 3000000) (disch := decide) only [↓psE, psO, forall_const, ↓iAdd, ↓iSub, ↓iMul, ↓iDiv, ↓iMod, ↓iPow, ↓iLt, ↓iLe, ↓iGt, ↓iGe, T.ne_Ratio_Vector, T.ne_Ratio_Poly, T.ne_Vector_Ratio, T.ne_Vector_Poly, T.ne_Poly_Ratio, T.ne_Poly_Vector, T.ne_Empty_ZeroBottom, T.ne_ZeroBottom_Empty, ↓reduceIte, Nat.reduceLeDiff, Nat.reduceLT, reduceCtorEq, isiInt, isiBool, isiStr, isiC, isiTup, isiLst, isiOr, nfC, inL, startP, startI, setAll, List.replicate, Nat.reduceSub, Nat.reduceAdd]
      refine ⟨by omega, by omega, ?_⟩
      obtain ⟨n, rfl⟩ := Int.eq_ofNat_of_zero_le hm
      rw [Int.toNat_natCast]
      refine loop_at (fun j ρ => ∃ (c : Int) (v : Option Sl) (rs : List Int), rs.length = j ∧ (∀ r ∈ rs, 0 ≤ r ∧ r < 1024) ∧ ρ = [some (.pv (lstI ns)), some (.pv (.int k)), some (.pv (.int n)), some (.pv (.int c)), some (.pv (.bl dg)), some (.own (rs.map PV.int)), v]) ⟨c, none, [], rfl, (fun _ z => nomatch z), rfl⟩ ?_ ?_
      · rintro j x ρ N hx hN ⟨c, v, rs, h1, h2, rfl⟩
        obtain ⟨hj, rfl⟩ := rangeP_at hx
        have hl : (rs.map PV.int).length < 10000 := by rw [List.length_map]; omega
        have add : ∀ (r c : Int) (v : Option Sl), 0 ≤ r → r < 1024 → N [some (.pv (lstI ns)), some (.pv (.int k)), some (.pv (.int n)), some (.pv (.int c)), some (.pv (.bl dg)), some (.own (rs.map PV.int ++ [.int r])), v] := by
          intro r c v r1 r2
          refine hN _ ⟨c, v, rs ++ [r], ?_, ?_, ?_⟩
          · rw [List.length_append, h1]
            rfl
          · intro x hx
            rcases List.mem_append.mp hx with hx | hx
            · exact h2 x hx
            · rw [List.mem_singleton.mp hx]
              exact ⟨r1, r2⟩
          · rw [List.map_append]
            rfl
        simp (maxSteps := 3000000) (disch := decide) only [↓psE, psO, forall_const, ↓iAdd, ↓iSub, ↓iMul, ↓iDiv, ↓iMod, ↓iPow, ↓iLt, ↓iLe, ↓iGt, ↓iGe, T.ne_Ratio_Vector, T.ne_Ratio_Poly, T.ne_Vector_Ratio, T.ne_Vector_Poly, T.ne_Poly_Ratio, T.ne_Poly_Vector, T.ne_Empty_ZeroBottom, T.ne_ZeroBottom_Empty, ↓reduceIte, Nat.reduceLeDiff, Nat.reduceLT, reduceCtorEq, isiInt, isiBool, isiStr, isiC, isiTup, isiLst, isiOr, nfC, inL, startP, startI, setAll, List.replicate, Nat.reduceSub, Nat.reduceAdd, ↓i_law_mix]
        split
        · exact ⟨hl, by decide, divR (by decide) (by decide), add _ _ _ (Int.emod_nonneg _ (by decide)) (Int.emod_lt_of_pos _ (by decide))⟩
        · exact ⟨hl, fun r r1 r2 => add r _ _ r1 r2⟩
      · rintro ρ ⟨c, v, rs, h1, h2, rfl⟩
        rw [rangeP_len] at h1
        exact ⟨c, v, rs, by omega, h2, rfl⟩
    · rintro ρ' ⟨c, v, rs, h1, h2, rfl⟩
      simp (maxSteps := 3000000) (disch := decide) only [↓psE, psO, forall_const, ↓iAdd, ↓iSub, ↓iMul, ↓iDiv, ↓iMod, ↓iPow, ↓iLt, ↓iLe, ↓iGt, ↓iGe, T.ne_Ratio_Vector, T.ne_Ratio_Poly, T.ne_Vector_Ratio, T.ne_Vector_Poly, T.ne_Poly_Ratio, T.ne_Poly_Vector, T.ne_Empty_ZeroBottom, T.ne_ZeroBottom_Empty, ↓reduceIte, Nat.reduceLeDiff, Nat.reduceLT, reduceCtorEq, isiInt, isiBool, isiStr, isiC, isiTup, isiLst, isiOr, nfC, inL, startP, startI, setAll, List.replicate, Nat.reduceSub, Nat.reduceAdd]
      exact h rs h1 h2

theorem ok_law_small (T : Txt K mg a) (S : Fs K a d) : FnOk P w K mg base (L2.CX P w) 1 a.f_law_small d.d_law_small ["d"] (spP K (P_law_small a)) := by
  refine fa_q (k := 0) S.F_law_small sc_law_small (len_law_small a) (fun cdv A outer s H E hr =>
    (jss_cons (js_if (jt_eq (je_mod (je_toint T.b_int (ja_cons (je_var 0) ja_nil)) je_int) je_int) (jss_one (js_ret (je_sub (je_mod (je_toint T.b_int (ja_cons (je_div (je_var 0) je_int) ja_nil)) je_int) je_int))) jss_nil)
      (jss_one (js_ret (je_sub (je_mod (je_toint T.b_int (ja_cons (je_var 0) ja_nil)) je_int) je_int))))) ?pure
  case pure =>
    rintro xs y Q ⟨d, rfl, h⟩
    simp (maxSteps := 3000000) (disch := decide) only [↓psE, psO, forall_const, ↓iAdd, ↓iSub, ↓iMul, ↓iDiv, ↓iMod, ↓iPow, ↓iLt, ↓iLe, ↓iGt, ↓iGe, T.ne_Ratio_Vector, T.ne_Ratio_Poly, T.ne_Vector_Ratio, T.ne_Vector_Poly, T.ne_Poly_Ratio, T.ne_Poly_Vector, T.ne_Empty_ZeroBottom, T.ne_ZeroBottom_Empty, ↓reduceIte, Nat.reduceLeDiff, Nat.reduceLT, reduceCtorEq, isiInt, isiBool, isiStr, isiC, isiTup, isiLst, isiOr, nfC, inL, startP, startI, setAll, List.replicate, Nat.reduceSub, Nat.reduceAdd]
    refine ⟨by decide, ?_⟩
    split
    · exact ⟨divR (by decide) (by decide), by decide, h _ (by omega) (by omega)⟩
    · exact ⟨by decide, h _ (by omega) (by omega)⟩

theorem ok_law_bottom (T : Txt K mg a) (S : Fs K a d) : FnOk P w K mg base (L2.CX P w) 1 a.f_law_bottom d.d_law_bottom ["d"] (spP K (P_law_bottom a)) := by
  refine fa_q (k := 0) S.F_law_bottom sc_law_bottom (len_law_bottom a) (fun cdv A outer s H E hr =>
    (jss_one (js_ret (je_ix (je_lst (ja_cons je_int (ja_cons je_int (ja_cons je_int (ja_cons je_int (ja_cons je_int (ja_cons je_int (ja_cons je_int (ja_cons je_int ja_nil))))))))) (je_mod (je_toint T.b_int (ja_cons (je_var 0) ja_nil)) je_int))))) ?pure
  case pure =>
    rintro xs y Q ⟨d, rfl, h⟩
    simp (maxSteps := 3000000) (disch := decide) only [↓psE, psO, forall_const, ↓iAdd, ↓iSub, ↓iMul, ↓iDiv, ↓iMod, ↓iPow, ↓iLt, ↓iLe, ↓iGt, ↓iGe, T.ne_Ratio_Vector, T.ne_Ratio_Poly, T.ne_Vector_Ratio, T.ne_Vector_Poly, T.ne_Poly_Ratio, T.ne_Poly_Vector, T.ne_Empty_ZeroBottom, T.ne_ZeroBottom_Empty, ↓reduceIte, Nat.reduceLeDiff, Nat.reduceLT, reduceCtorEq, isiInt, isiBool, isiStr, isiC, isiTup, isiLst, isiOr, nfC, inL, startP, startI, setAll, List.replicate, Nat.reduceSub, Nat.reduceAdd]
    refine ⟨by decide, ?_⟩
    have e : d % 8 = 0 ∨ d % 8 = 1 ∨ d % 8 = 2 ∨ d % 8 = 3 ∨ d % 8 = 4 ∨ d % 8 = 5 ∨ d % 8 = 6 ∨ d % 8 = 7 := by omega
    rcases e with e | e | e | e | e | e | e | e <;> rw [e] <;> exact h _ (by decide) (by decide)

theorem ok_law_wide (T : Txt K mg a) (S : Fs K a d) : FnOk P w K mg base (L2.CX P w) 2 a.f_law_wide d.d_law_wide ["script", "k"] (spP K (P_law_wide a)) := by
  refine fa_q (k := 1) S.F_law_wide sc_law_wide (len_law_wide a) (fun cdv A outer s H E hr =>
    (jss_cons (js_set 2 sc_law_wide.nd (je_call (ok_law_cell T S) (hr.mono (by decide)) T.mg_law_cell S.F_law_cell.kp S.B_law_cell .nil (fun _ => .nil) (tkOf (takes_of rfl rfl rfl rfl)) (ja_cons (je_var 0) (ja_cons (je_var 1) ja_nil))))
      (jss_cons (js_set 3 sc_law_wide.nd (je_mod (je_toint T.b_int (ja_cons (je_div (je_var 2) je_int) ja_nil)) (je_pow je_int je_int)))
      (jss_cons (js_if (jt_eq (je_mod (je_toint T.b_int (ja_cons (je_var 2) ja_nil)) je_int) je_int) (jss_one (js_ret (je_neg (je_var 3)))) jss_nil)
      (jss_one (js_ret (je_var 3))))))) ?pure
  case pure =>
    rintro xs y Q ⟨ns, k, rfl, hk, hn, h⟩
    simp (maxSteps := 3000000) (disch := decide) only [↓psE, psO, forall_const, ↓iAdd, ↓iSub, ↓iMul, ↓iDiv, ↓iMod, ↓iPow, ↓iLt, ↓iLe, ↓iGt, ↓iGe, T.ne_Ratio_Vector, T.ne_Ratio_Poly, T.ne_Vector_Ratio, T.ne_Vector_Poly, T.ne_Poly_Ratio, T.ne_Poly_Vector, T.ne_Empty_ZeroBottom, T.ne_ZeroBottom_Empty, ↓reduceIte, Nat.reduceLeDiff, Nat.reduceLT, reduceCtorEq, isiInt, isiBool, isiStr, isiC, isiTup, isiLst, isiOr, nfC, inL, startP, startI, setAll, List.replicate, Nat.reduceSub, Nat.reduceAdd]
    refine ⟨ns, k, rfl, hk, hn, fun c => ?_⟩
    simp (maxSteps := 3000000) (disch := decide) only [↓psE, psO, forall_const, ↓iAdd, ↓iSub, ↓iMul, ↓iDiv, ↓iMod, ↓iPow, ↓iLt, ↓iLe, ↓iGt, ↓iGe, T.ne_Ratio_Vector, T.ne_Ratio_Poly, T.ne_Vector_Ratio, T.ne_Vector_Poly, T.ne_Poly_Ratio, T.ne_Poly_Vector, T.ne_Empty_ZeroBottom, T.ne_ZeroBottom_Empty, ↓reduceIte, Nat.reduceLeDiff, Nat.reduceLT, reduceCtorEq, isiInt, isiBool, isiStr, isiC, isiTup, isiLst, isiOr, nfC, inL, startP, startI, setAll, List.replicate, Nat.reduceSub, Nat.reduceAdd]
    have s : Sz 60 (c.fdiv 2 % 10 ^ Int.toNat 18) := Sz.emod (by unfold Sz; decide) (by decide)
    refine ⟨divR (by decide) (by decide), powC, by decide, by decide, ?_⟩
    split
    · exact h _ s.neg
    · exact h _ s

theorem ok_law_is_integer (T : Txt K mg a) (S : Fs K a d) : FnOk P w K mg base (L2.CX P w) 1 a.f_law_is_integer d.d_law_is_integer ["x"] (spP K (P_law_is_integer a)) := by
  refine fa_q (k := 0) S.F_law_is_integer sc_law_is_integer (len_law_is_integer a) (fun cdv A outer s H E hr =>
    (jss_one (js_ret (je_and (je_isiT (kit_int (os := [a.C_Ratio, a.C_Vector, a.C_Poly]) T.ko_int) T.b_isinstance (je_var 0) T.b_int) (je_one (je_not (je_isiT (kit_bool (os := [a.C_Ratio, a.C_Vector, a.C_Poly]) T.ko_bool) T.b_isinstance (je_var 0) T.b_bool))))))) ?pure
  case pure =>
    rintro xs y Q ⟨i, rfl, h⟩
    simp (maxSteps := 3000000) (disch := decide) only [↓psE, psO, forall_const, ↓iAdd, ↓iSub, ↓iMul, ↓iDiv, ↓iMod, ↓iPow, ↓iLt, ↓iLe, ↓iGt, ↓iGe, T.ne_Ratio_Vector, T.ne_Ratio_Poly, T.ne_Vector_Ratio, T.ne_Vector_Poly, T.ne_Poly_Ratio, T.ne_Poly_Vector, T.ne_Empty_ZeroBottom, T.ne_ZeroBottom_Empty, ↓reduceIte, Nat.reduceLeDiff, Nat.reduceLT, reduceCtorEq, isiInt, isiBool, isiStr, isiC, isiTup, isiLst, isiOr, nfC, inL, startP, startI, setAll, List.replicate, Nat.reduceSub, Nat.reduceAdd]
    exact h

theorem ok_law_gcd (T : Txt K mg a) (S : Fs K a d) : FnOk P w K mg base (L2.CX P w) 1 a.f_law_gcd d.d_law_gcd ["a", "b"] (spP K (P_law_gcd a)) := by
  refine fa_q (k := 0) S.F_law_gcd sc_law_gcd (len_law_gcd a) (fun cdv A outer s H E hr =>
    (jss_cons (js_set 0 sc_law_gcd.nd (je_abs T.b_abs (ja_cons (je_var 0) ja_nil)))
      (jss_cons (js_set 1 sc_law_gcd.nd (je_abs T.b_abs (ja_cons (je_var 1) ja_nil)))
      (jss_cut (js_forR1 2 (passes_of rfl) rfl sc_law_gcd.nd T.b_range (ja_cons (je_add (je_mul je_int (je_bits (je_var 1))) je_int) ja_nil)
        (jss_cons (js_if (jt_eq (je_var 1) je_int) (jss_one (js_ret (je_var 0))) jss_nil)
      (jss_one (js_par 0 1 rfl sc_law_gcd.nd (by decide) (ja_cons (je_var 1) (ja_cons (je_mod (je_toint T.b_int (ja_cons (je_var 0) ja_nil)) (je_var 1)) ja_nil))))))
      (jss_one (js_ret (je_var 0))))))) ?pure
  case pure =>
    rintro xs y Q ⟨t, b, rfl, hs, h⟩
    simp (maxSteps := 3000000) (disch := decide) only [↓psE, psO, forall_const, ↓iAdd, ↓iSub, ↓iMul, ↓iDiv, ↓iMod, ↓iPow, ↓iLt, ↓iLe, ↓iGt, ↓iGe, T.ne_Ratio_Vector, T.ne_Ratio_Poly, T.ne_Vector_Ratio, T.ne_Vector_Poly, T.ne_Poly_Ratio, T.ne_Poly_Vector, T.ne_Empty_ZeroBottom, T.ne_ZeroBottom_Empty, ↓reduceIte, Nat.reduceLeDiff, Nat.reduceLT, reduceCtorEq, isiInt, isiBool, isiStr, isiC, isiTup, isiLst, isiOr, nfC, inL, startP, startI, setAll, List.replicate, Nat.reduceSub, Nat.reduceAdd]
    have ab : ∀ x : Int, (if x < 0 then -x else x) = ((x.natAbs : Nat) : Int) := fun x => by split <;> omega
    simp only [ab]
    have hB : Builtin.Int.intBits (b.natAbs : Int) ≤ 8000 := by
      unfold Builtin.Int.intBits
      split
      · omega
      · have := hs.log (by decide)
        simp only [Int.natAbs_natCast]
        omega
    have hb := bits_lt b.natAbs
    generalize hg : Builtin.Int.intBits (b.natAbs : Int) = B at *
    refine ⟨fun ρ => ∃ v w, ρ = [some (.pv (.int (gcdZ t b))), v, w], ?_, ?_⟩
    · simp (maxSteps := 3000000) (disch := decide) only [↓psE, psO, forall_const, ↓iAdd, ↓iSub, ↓iMul, ↓iDiv, ↓iMod, ↓iPow, ↓iLt, ↓iLe, ↓iGt, ↓iGe, T.ne_Ratio_Vector, T.ne_Ratio_Poly, T.ne_Vector_Ratio, T.ne_Vector_Poly, T.ne_Poly_Ratio, T.ne_Poly_Vector, T.ne_Empty_ZeroBottom, T.ne_ZeroBottom_Empty, ↓reduceIte, Nat.reduceLeDiff, Nat.reduceLT, reduceCtorEq, isiInt, isiBool, isiStr, isiC, isiTup, isiLst, isiOr, nfC, inL, startP, startI, setAll, List.replicate, Nat.reduceSub, Nat.reduceAdd, hg]
      refine ⟨mulL (by decide), by omega, by omega, ?_⟩
      rw [show (2 * (B : Int) + 2).toNat = 2 * B + 2 by omega]
      refine loop_at (fun k ρ => ∃ (m n : Nat) (v : Option Sl), Nat.gcd m n = Nat.gcd t.natAbs b.natAbs ∧ ρ = [some (.pv (.int m)), some (.pv (.int n)), v] ∧ match k with
        | 0 => n < 2 ^ B
        | k + 1 => n < m ∧ m * n * 2 ^ k < 2 ^ (2 * B)) ⟨t.natAbs, b.natAbs, none, rfl, rfl, hb⟩ ?_ ?_
      · rintro k x ρ N hx hN ⟨m, n, v, e, rfl, hI⟩
        simp (maxSteps := 3000000) (disch := decide) only [↓psE, psO, forall_const, ↓iAdd, ↓iSub, ↓iMul, ↓iDiv, ↓iMod, ↓iPow, ↓iLt, ↓iLe, ↓iGt, ↓iGe, T.ne_Ratio_Vector, T.ne_Ratio_Poly, T.ne_Vector_Ratio, T.ne_Vector_Poly, T.ne_Poly_Ratio, T.ne_Poly_Vector, T.ne_Empty_ZeroBottom, T.ne_ZeroBottom_Empty, ↓reduceIte, Nat.reduceLeDiff, Nat.reduceLT, reduceCtorEq, isiInt, isiBool, isiStr, isiC, isiTup, isiLst, isiOr, nfC, inL, startP, startI, setAll, List.replicate, Nat.reduceSub, Nat.reduceAdd]
        split
        · rename_i hz
          have hz : n = 0 := by omega
          subst hz
          rw [Nat.gcd_zero_right] at e
          rw [e]
          exact h
        · rename_i hz
          have hz : n ≠ 0 := by omega
          refine ⟨by omega, hN _ ⟨n, m % n, some (.pv x), ?_, rfl, ?_⟩⟩
          · cases k with
            | zero => exact (euc_first hz hI).2.2.trans e
            | succ k => exact (euc_step hI.1 hI.2 hz).2.2.trans e
          · cases k with
            | zero => exact ⟨(euc_first hz hI).1, (euc_first (b := B) hz hI).2.1⟩
            | succ k => exact ⟨(euc_step hI.1 hI.2 hz).1, (euc_step hI.1 hI.2 hz).2.1⟩
      · rintro ρ ⟨m, n, v, e, rfl, hI⟩
        rw [rangeP_len] at hI
        have hz := euc_end hI.1 hI.2
        subst hz
        rw [Nat.gcd_zero_right] at e
        exact ⟨_, _, by rw [e]; rfl⟩
    · rintro ρ' ⟨v, w, rfl⟩
      simp (maxSteps := 3000000) (disch := decide) only [↓psE, psO, forall_const, ↓iAdd, ↓iSub, ↓iMul, ↓iDiv, ↓iMod, ↓iPow, ↓iLt, ↓iLe, ↓iGt, ↓iGe, T.ne_Ratio_Vector, T.ne_Ratio_Poly, T.ne_Vector_Ratio, T.ne_Vector_Poly, T.ne_Poly_Ratio, T.ne_Poly_Vector, T.ne_Empty_ZeroBottom, T.ne_ZeroBottom_Empty, ↓reduceIte, Nat.reduceLeDiff, Nat.reduceLT, reduceCtorEq, isiInt, isiBool, isiStr, isiC, isiTup, isiLst, isiOr, nfC, inL, startP, startI, setAll, List.replicate, Nat.reduceSub, Nat.reduceAdd]
      exact h

theorem ok_law_ratio (T : Txt K mg a) (S : Fs K a d) : FnOk P w K mg base (L2.CX P w) 2 a.f_law_ratio d.d_law_ratio ["top", "bottom"] (spP K (P_law_ratio a)) := by
  refine fa_q (k := 1) S.F_law_ratio sc_law_ratio (len_law_ratio a) (fun cdv A outer s H E hr =>
    (jss_cons (js_set 2 sc_law_ratio.nd (je_call (ok_law_gcd T S) (hr.mono (by decide)) T.mg_law_gcd S.F_law_gcd.kp S.B_law_gcd .nil (fun _ => .nil) (tkOf (takes_of rfl rfl rfl rfl)) (ja_cons (je_var 0) (ja_cons (je_var 1) ja_nil))))
      (jss_cut (js_if (jt_lt (je_var 1) je_int) (jss_one (js_set 2 sc_law_ratio.nd (je_neg (je_var 2)))) jss_nil)
      (jss_one (js_ret (je_tup (ja_cons (je_div (je_var 0) (je_var 2)) (ja_cons (je_div (je_var 1) (je_var 2)) ja_nil)))))))) ?pure
  case pure =>
    rintro xs y Q ⟨t, b, rfl, hb, hs, h⟩
    simp (maxSteps := 3000000) (disch := decide) only [↓psE, psO, forall_const, ↓iAdd, ↓iSub, ↓iMul, ↓iDiv, ↓iMod, ↓iPow, ↓iLt, ↓iLe, ↓iGt, ↓iGe, T.ne_Ratio_Vector, T.ne_Ratio_Poly, T.ne_Vector_Ratio, T.ne_Vector_Poly, T.ne_Poly_Ratio, T.ne_Poly_Vector, T.ne_Empty_ZeroBottom, T.ne_ZeroBottom_Empty, ↓reduceIte, Nat.reduceLeDiff, Nat.reduceLT, reduceCtorEq, isiInt, isiBool, isiStr, isiC, isiTup, isiLst, isiOr, nfC, inL, startP, startI, setAll, List.replicate, Nat.reduceSub, Nat.reduceAdd, ↓i_law_gcd]
    refine ⟨hs, fun ρ => ρ = [some (.pv (.int t)), some (.pv (.int b)), some (.pv (.int (shared [t] b)))], ?_, ?_⟩
    · simp (maxSteps := 3000000) (disch := decide) only [↓psE, psO, forall_const, ↓iAdd, ↓iSub, ↓iMul, ↓iDiv, ↓iMod, ↓iPow, ↓iLt, ↓iLe, ↓iGt, ↓iGe, T.ne_Ratio_Vector, T.ne_Ratio_Poly, T.ne_Vector_Ratio, T.ne_Vector_Poly, T.ne_Poly_Ratio, T.ne_Poly_Vector, T.ne_Empty_ZeroBottom, T.ne_ZeroBottom_Empty, ↓reduceIte, Nat.reduceLeDiff, Nat.reduceLT, reduceCtorEq, isiInt, isiBool, isiStr, isiC, isiTup, isiLst, isiOr, nfC, inL, startP, startI, setAll, List.replicate, Nat.reduceSub, Nat.reduceAdd]
      split
      · rename_i hn
        show _ = _
        rw [shared1, if_neg (by omega)]
      · rename_i hn
        show _ = _
        rw [shared1, if_pos (by omega)]
    · rintro ρ' rfl
      simp (maxSteps := 3000000) (disch := decide) only [↓psE, psO, forall_const, ↓iAdd, ↓iSub, ↓iMul, ↓iDiv, ↓iMod, ↓iPow, ↓iLt, ↓iLe, ↓iGt, ↓iGe, T.ne_Ratio_Vector, T.ne_Ratio_Poly, T.ne_Vector_Ratio, T.ne_Vector_Poly, T.ne_Poly_Ratio, T.ne_Poly_Vector, T.ne_Empty_ZeroBottom, T.ne_ZeroBottom_Empty, ↓reduceIte, Nat.reduceLeDiff, Nat.reduceLT, reduceCtorEq, isiInt, isiBool, isiStr, isiC, isiTup, isiLst, isiOr, nfC, inL, startP, startI, setAll, List.replicate, Nat.reduceSub, Nat.reduceAdd]
      exact ⟨divW (sh_sz hs hb) (sh_ne hb) (by decide), divW (sh_sz hs hb) (sh_ne hb) (by decide), h⟩

theorem ok_law_low (T : Txt K mg a) (S : Fs K a d) : FnOk P w K mg base (L2.CX P w) 2 a.f_law_low d.d_law_low ["tops", "bottom"] (spP K (P_law_low a)) := by
  refine fa_q (k := 1) S.F_law_low sc_law_low (len_law_low a) (fun cdv A outer s H E hr =>
    (jss_cons (js_set 2 sc_law_low.nd (je_abs T.b_abs (ja_cons (je_var 1) ja_nil)))
      (jss_cut (js_forL 3 (passes_of rfl) rfl sc_law_low.nd (je_var 0)
        (jss_one (js_set 2 sc_law_low.nd (je_call (ok_law_gcd T S) (hr.mono (by decide)) T.mg_law_gcd S.F_law_gcd.kp S.B_law_gcd .nil (fun _ => .nil) (tkOf (takes_of rfl rfl rfl rfl)) (ja_cons (je_var 2) (ja_cons (je_var 3) ja_nil))))))
      (jss_cut (js_if (jt_lt (je_var 1) je_int) (jss_one (js_set 2 sc_law_low.nd (je_neg (je_var 2)))) jss_nil)
      (jss_one (js_ret (je_tup (ja_cons (je_lc (own := [("top", 3)]) (g := (gName 3)) (t := (tName 3)) rfl sc_law_low.nd (ji_list (je_var 0)) (blkOk_by (N := ["tops", "bottom", "part", "top"]) (sc := defScope s_law_low) (by decide +kernel)) (tg_name 3) (fun _ _ _ _ _ => pg_name (i := 3) sc_law_low.nd rfl (Or.inl rfl)) (fun _ _ _ _ _ => jts_nil) (fun _ _ _ _ _ => (je_div (je_var 3) (je_var 2)))) (ja_cons (je_div (je_var 1) (je_var 2)) ja_nil))))))))) ?pure
  case pure =>
    rintro xs y Q ⟨ts, b, rfl, ⟨hb, sb, st, hl⟩, h⟩
    simp (maxSteps := 3000000) (disch := decide) only [↓psE, psO, forall_const, ↓iAdd, ↓iSub, ↓iMul, ↓iDiv, ↓iMod, ↓iPow, ↓iLt, ↓iLe, ↓iGt, ↓iGe, T.ne_Ratio_Vector, T.ne_Ratio_Poly, T.ne_Vector_Ratio, T.ne_Vector_Poly, T.ne_Poly_Ratio, T.ne_Poly_Vector, T.ne_Empty_ZeroBottom, T.ne_ZeroBottom_Empty, ↓reduceIte, Nat.reduceLeDiff, Nat.reduceLT, reduceCtorEq, isiInt, isiBool, isiStr, isiC, isiTup, isiLst, isiOr, nfC, inL, startP, startI, setAll, List.replicate, Nat.reduceSub, Nat.reduceAdd]
    have loop : ∀ (us : List Int) (p : Nat) (v : Option Sl) (D : QD), (∀ t ∈ us, Sz 8000 t) → (∀ v', D.nx [some (.pv (lstI ts)), some (.pv (.int b)), some (.pv (.int ((gcdNs us p : Nat) : Int))), v']) →
        qLoop 3 (qSet 2 (qCall (P_law_gcd a) [] (qCons (qVar 2) (qCons (qVar 3) qNil)))) D (us.map PV.int) [some (.pv (lstI ts)), some (.pv (.int b)), some (.pv (.int (p : Int))), v] := by
      intro us
      induction us with
      | nil => intro p v D _ hD; exact hD v
      | cons u us ih =>
        intro p v D hs hD
        show qSet _ _ _ _
        simp (maxSteps := 3000000) (disch := decide) only [↓psE, psO, forall_const, ↓iAdd, ↓iSub, ↓iMul, ↓iDiv, ↓iMod, ↓iPow, ↓iLt, ↓iLe, ↓iGt, ↓iGe, T.ne_Ratio_Vector, T.ne_Ratio_Poly, T.ne_Vector_Ratio, T.ne_Vector_Poly, T.ne_Poly_Ratio, T.ne_Poly_Vector, T.ne_Empty_ZeroBottom, T.ne_ZeroBottom_Empty, ↓reduceIte, Nat.reduceLeDiff, Nat.reduceLT, reduceCtorEq, isiInt, isiBool, isiStr, isiC, isiTup, isiLst, isiOr, nfC, inL, startP, startI, setAll, List.replicate, Nat.reduceSub, Nat.reduceAdd, ↓i_law_gcd]
        refine ⟨hs u (.head _), ?_⟩
        exact ih _ _ _ (fun t ht => hs t (.tail _ ht)) fun v' => hD v'
    refine cutS [2, 3] (fun vs => ∃ v, vs = [some (.pv (.int ((gcdNs ts b.natAbs : Nat) : Int))), v]) ?_ ?_
    · rw [abs_cast]
      exact loop ts _ _ _ st fun v => ⟨[_, v], ⟨v, rfl⟩, rfl⟩
    rintro vs ⟨v, rfl⟩
    simp (maxSteps := 3000000) (disch := decide) only [↓psE, psO, forall_const, ↓iAdd, ↓iSub, ↓iMul, ↓iDiv, ↓iMod, ↓iPow, ↓iLt, ↓iLe, ↓iGt, ↓iGe, T.ne_Ratio_Vector, T.ne_Ratio_Poly, T.ne_Vector_Ratio, T.ne_Vector_Poly, T.ne_Poly_Ratio, T.ne_Poly_Vector, T.ne_Empty_ZeroBottom, T.ne_ZeroBottom_Empty, ↓reduceIte, Nat.reduceLeDiff, Nat.reduceLT, reduceCtorEq, isiInt, isiBool, isiStr, isiC, isiTup, isiLst, isiOr, nfC, inL, startP, startI, setAll, List.replicate, Nat.reduceSub, Nat.reduceAdd]
    refine cutS [2] (fun vs => vs = [some (.pv (.int (shared ts b)))]) ?_ ?_
    · simp (maxSteps := 3000000) (disch := decide) only [↓psE, psO, forall_const, ↓iAdd, ↓iSub, ↓iMul, ↓iDiv, ↓iMod, ↓iPow, ↓iLt, ↓iLe, ↓iGt, ↓iGe, T.ne_Ratio_Vector, T.ne_Ratio_Poly, T.ne_Vector_Ratio, T.ne_Vector_Poly, T.ne_Poly_Ratio, T.ne_Poly_Vector, T.ne_Empty_ZeroBottom, T.ne_ZeroBottom_Empty, ↓reduceIte, Nat.reduceLeDiff, Nat.reduceLT, reduceCtorEq, isiInt, isiBool, isiStr, isiC, isiTup, isiLst, isiOr, nfC, inL, startP, startI, setAll, List.replicate, Nat.reduceSub, Nat.reduceAdd]
      split
      · exact ⟨[_], rfl, by rw [shared_eq, if_neg (by omega)]; rfl⟩
      · exact ⟨[_], rfl, by rw [shared_eq, if_pos (by omega)]; rfl⟩
    rintro vs rfl
    simp (maxSteps := 3000000) (disch := decide) only [↓psE, psO, forall_const, ↓iAdd, ↓iSub, ↓iMul, ↓iDiv, ↓iMod, ↓iPow, ↓iLt, ↓iLe, ↓iGt, ↓iGe, T.ne_Ratio_Vector, T.ne_Ratio_Poly, T.ne_Vector_Ratio, T.ne_Vector_Poly, T.ne_Poly_Ratio, T.ne_Poly_Vector, T.ne_Empty_ZeroBottom, T.ne_ZeroBottom_Empty, ↓reduceIte, Nat.reduceLeDiff, Nat.reduceLT, reduceCtorEq, isiInt, isiBool, isiStr, isiC, isiTup, isiLst, isiOr, nfC, inL, startP, startI, setAll, List.replicate, Nat.reduceSub, Nat.reduceAdd]
    refine ⟨by rw [List.length_map]; omega, coll_ints (fun t => t.fdiv (shared ts b)) ts (fun t ht R r => ?_) ⟨divW (sharedV_sz sb hb) (sharedV_ne hb) (by decide), h⟩⟩
    simp (maxSteps := 3000000) (disch := decide) only [↓psE, psO, forall_const, ↓iAdd, ↓iSub, ↓iMul, ↓iDiv, ↓iMod, ↓iPow, ↓iLt, ↓iLe, ↓iGt, ↓iGe, T.ne_Ratio_Vector, T.ne_Ratio_Poly, T.ne_Vector_Ratio, T.ne_Vector_Poly, T.ne_Poly_Ratio, T.ne_Poly_Vector, T.ne_Empty_ZeroBottom, T.ne_ZeroBottom_Empty, ↓reduceIte, Nat.reduceLeDiff, Nat.reduceLT, reduceCtorEq, isiInt, isiBool, isiStr, isiC, isiTup, isiLst, isiOr, nfC, inL, startP, startI, setAll, List.replicate, Nat.reduceSub, Nat.reduceAdd]
    exact ⟨divW (sharedV_sz sb hb) (sharedV_ne hb) (by decide), r⟩

theorem ok_law_thing (T : Txt K mg a) (S : Fs K a d) : FnOk P w K mg base (L2.CX P w) 3 a.f_law_thing d.d_law_thing ["script", "which", "size"] (spP K (P_law_thing a)) := by
  refine fa_q (k := 2) S.F_law_thing sc_law_thing (len_law_thing a) (fun cdv A outer s H E hr =>
    (jss_cons (js_set 3 sc_law_thing.nd (je_call (ok_law_draws T S) (hr.mono (by decide)) T.mg_law_draws S.F_law_draws.kp S.B_law_draws .nil (fun _ => .nil) (tkOf (takes_of rfl rfl rfl rfl)) (ja_cons (je_var 0) (ja_cons (je_add je_int (je_var 1)) (ja_cons je_int ja_nil)))))
      (jss_cons (js_set 4 sc_law_thing.nd (je_mod (je_toint T.b_int (ja_cons (je_ix (je_var 3) je_int) ja_nil)) je_int))
      (jss_cons (js_setLc 5 (own := [("d", 6)]) (g := (gName 6)) (t := (tName 6)) rfl sc_law_thing.nd (ji_list (je_sl (je_var 3) (jo_some je_int) (jo_some (je_add je_int (je_var 2))))) (blkOk_by (N := ["script", "which", "size", "draws", "kind", "tops", "d", "bottom", "top", "at", "factor"]) (sc := defScope s_law_thing) (by decide +kernel)) (tg_name 6) (fun _ _ _ _ _ => pg_name (i := 6) sc_law_thing.nd rfl (Or.inl rfl)) (fun _ _ _ _ _ => jts_nil) (fun _ _ _ _ _ => (je_call (ok_law_small T S) (hr.mono (by decide)) T.mg_law_small S.F_law_small.kp S.B_law_small .nil (fun _ => .nil) tk_false (ja_cons (je_var 6) ja_nil))))
      (jss_cons (js_set 7 sc_law_thing.nd (je_call (ok_law_bottom T S) (hr.mono (by decide)) T.mg_law_bottom S.F_law_bottom.kp S.B_law_bottom .nil (fun _ => .nil) (tkOf (takes_of rfl rfl rfl rfl)) (ja_cons (je_ix (je_var 3) je_int) ja_nil)))
      (jss_cut (js_if (jt_eq (je_var 4) je_int) (jss_one (js_setLc 5 (own := [("top", 8)]) (g := (gName 8)) (t := (tName 8)) rfl sc_law_thing.nd (ji_list (je_var 5)) (blkOk_by (N := ["script", "which", "size", "draws", "kind", "tops", "d", "bottom", "top", "at", "factor"]) (sc := defScope s_law_thing) (by decide +kernel)) (tg_name 8) (fun _ _ _ _ _ => pg_name (i := 8) sc_law_thing.nd rfl (Or.inl rfl)) (fun _ _ _ _ _ => jts_nil) (fun _ _ _ _ _ => je_int))) jss_nil)
      (jss_cut (js_if (jt_w (jw_or (jt_eq (je_var 4) je_int) (jw_or (jt_eq (je_var 4) je_int) (jw_or1 (jt_eq (je_var 4) je_int))))) (jss_cons (js_setLc 5 (own := [("at", 9)]) (g := (gName 9)) (t := (tName 9)) rfl sc_law_thing.nd (ji_range1 T.b_range (ja_cons (je_var 2) ja_nil)) (blkOk_by (N := ["script", "which", "size", "draws", "kind", "tops", "d", "bottom", "top", "at", "factor"]) (sc := defScope s_law_thing) (by decide +kernel)) (tg_name 9) (fun _ _ _ _ _ => pg_name (i := 9) sc_law_thing.nd rfl (Or.inl rfl)) (fun _ _ _ _ _ => jts_nil) (fun _ _ _ _ _ => (je_call (ok_law_wide T S) (hr.mono (by decide)) T.mg_law_wide S.F_law_wide.kp S.B_law_wide .nil (fun _ => .nil) tk_false (ja_cons (je_var 0) (ja_cons (je_add (je_add je_int (je_mul je_int (je_var 1))) (je_mod (je_toint T.b_int (ja_cons (je_var 9) ja_nil)) je_int)) ja_nil)))))
      (jss_one (js_set 7 sc_law_thing.nd (je_abs T.b_abs (ja_cons (je_call (ok_law_wide T S) (hr.mono (by decide)) T.mg_law_wide S.F_law_wide.kp S.B_law_wide .nil (fun _ => .nil) (tkOf (takes_of rfl rfl rfl rfl)) (ja_cons (je_var 0) (ja_cons (je_add je_int (je_var 1)) ja_nil))) ja_nil))))) jss_nil)
      (jss_cut (js_if (jt_eq (je_var 7) je_int) (jss_one (js_set 7 sc_law_thing.nd je_int)) jss_nil)
      (jss_cons (js_set 10 sc_law_thing.nd je_int)
      (jss_cut (js_if (jt_eq (je_mod (je_toint T.b_int (ja_cons (je_ix (je_var 3) je_int) ja_nil)) je_int) je_int) (jss_one (js_set 10 sc_law_thing.nd (je_add je_int (je_mod (je_toint T.b_int (ja_cons (je_div (je_ix (je_var 3) je_int) je_int) ja_nil)) je_int)))) jss_nil)
      (jss_cut (js_if (jt_eq (je_mod (je_toint T.b_int (ja_cons (je_ix (je_var 3) je_int) ja_nil)) je_int) je_int) (jss_one (js_set 10 sc_law_thing.nd (je_neg (je_var 10)))) jss_nil)
      (jss_one (js_ret (je_tup (ja_cons (je_lc (own := [("top", 8)]) (g := (gName 8)) (t := (tName 8)) rfl sc_law_thing.nd (ji_list (je_var 5)) (blkOk_by (N := ["script", "which", "size", "draws", "kind", "tops", "d", "bottom", "top", "at", "factor"]) (sc := defScope s_law_thing) (by decide +kernel)) (tg_name 8) (fun _ _ _ _ _ => pg_name (i := 8) sc_law_thing.nd rfl (Or.inl rfl)) (fun _ _ _ _ _ => jts_nil) (fun _ _ _ _ _ => (je_mul (je_var 8) (je_var 10)))) (ja_cons (je_mul (je_var 7) (je_var 10)) ja_nil)))))))))))))))) ?pure
  case pure =>
    rintro xs y Q ⟨ns, w, n, rfl, ⟨hn, w0, w1, n1, n30⟩, h⟩
    simp (maxSteps := 3000000) (disch := decide) only [↓psE, psO, forall_const, ↓iAdd, ↓iSub, ↓iMul, ↓iDiv, ↓iMod, ↓iPow, ↓iLt, ↓iLe, ↓iGt, ↓iGe, T.ne_Ratio_Vector, T.ne_Ratio_Poly, T.ne_Vector_Ratio, T.ne_Vector_Poly, T.ne_Poly_Ratio, T.ne_Poly_Vector, T.ne_Empty_ZeroBottom, T.ne_ZeroBottom_Empty, ↓reduceIte, Nat.reduceLeDiff, Nat.reduceLT, reduceCtorEq, isiInt, isiBool, isiStr, isiC, isiTup, isiLst, isiOr, nfC, inL, startP, startI, setAll, List.replicate, Nat.reduceSub, Nat.reduceAdd]
    refine ⟨ns, _, _, rfl, by omega, hn, by omega, by omega, fun rs hl hr => ?_⟩
    obtain ⟨r0, r1, r2, r3, rs', rfl⟩ : ∃ r0 r1 r2 r3 rs', rs = r0 :: r1 :: r2 :: r3 :: rs' := by
      match rs, hl with
      | [], h => simp at h
      | [_], h => simp at h
      | [_, _], h => simp at h
      | [_, _, _], h => simp at h
      | a :: b :: c :: d :: r, _ => exact ⟨a, b, c, d, r, rfl⟩
    have hl' : (r0 :: r1 :: r2 :: r3 :: rs').length = 34 := by omega
    have hc := cut_nn (r0 :: r1 :: r2 :: r3 :: rs') 4 (4 + n) (by omega) (by omega)
    obtain ⟨hc1, hc2⟩ := hc
    have hc1 : cutP (PV.int r0 :: PV.int r1 :: PV.int r2 :: PV.int r3 :: List.map PV.int rs') (some 4) (some (4 + ↑n)) = _ := hc1
    simp (maxSteps := 3000000) (disch := decide) only [↓psE, psO, forall_const, ↓iAdd, ↓iSub, ↓iMul, ↓iDiv, ↓iMod, ↓iPow, ↓iLt, ↓iLe, ↓iGt, ↓iGe, T.ne_Ratio_Vector, T.ne_Ratio_Poly, T.ne_Vector_Ratio, T.ne_Vector_Poly, T.ne_Poly_Ratio, T.ne_Poly_Vector, T.ne_Empty_ZeroBottom, T.ne_ZeroBottom_Empty, ↓reduceIte, Nat.reduceLeDiff, Nat.reduceLT, reduceCtorEq, isiInt, isiBool, isiStr, isiC, isiTup, isiLst, isiOr, nfC, inL, startP, startI, setAll, List.replicate, Nat.reduceSub, Nat.reduceAdd, hc1]
    refine ⟨by decide, by rw [List.length_map, hc2]; omega, coll_sats (fun r => Sz 60 r) _ (fun x hx R hR => ?_) fun ts htl hts => ?_⟩
    · obtain ⟨z, _, rfl⟩ := List.mem_map.mp hx
      simp (maxSteps := 3000000) (disch := decide) only [↓psE, psO, forall_const, ↓iAdd, ↓iSub, ↓iMul, ↓iDiv, ↓iMod, ↓iPow, ↓iLt, ↓iLe, ↓iGt, ↓iGe, T.ne_Ratio_Vector, T.ne_Ratio_Poly, T.ne_Vector_Ratio, T.ne_Vector_Poly, T.ne_Poly_Ratio, T.ne_Poly_Vector, T.ne_Empty_ZeroBottom, T.ne_ZeroBottom_Empty, ↓reduceIte, Nat.reduceLeDiff, Nat.reduceLT, reduceCtorEq, isiInt, isiBool, isiStr, isiC, isiTup, isiLst, isiOr, nfC, inL, startP, startI, setAll, List.replicate, Nat.reduceSub, Nat.reduceAdd, ↓i_law_small]
      exact fun r r1 r2 => hR r (sz_small r1 (by omega) (by decide))
    rw [List.length_map, hc2, Nat.add_sub_cancel_left] at htl
    simp (maxSteps := 3000000) (disch := decide) only [↓psE, psO, forall_const, ↓iAdd, ↓iSub, ↓iMul, ↓iDiv, ↓iMod, ↓iPow, ↓iLt, ↓iLe, ↓iGt, ↓iGe, T.ne_Ratio_Vector, T.ne_Ratio_Poly, T.ne_Vector_Ratio, T.ne_Vector_Poly, T.ne_Poly_Ratio, T.ne_Poly_Vector, T.ne_Empty_ZeroBottom, T.ne_ZeroBottom_Empty, ↓reduceIte, Nat.reduceLeDiff, Nat.reduceLT, reduceCtorEq, isiInt, isiBool, isiStr, isiC, isiTup, isiLst, isiOr, nfC, inL, startP, startI, setAll, List.replicate, Nat.reduceSub, Nat.reduceAdd, ↓i_law_bottom]
    intro b b1 b6
    have sb : Sz 60 b ∧ b ≠ 0 := ⟨sz_small (by omega) (by omega) (by decide), by omega⟩
    refine cutS [5] (fun vs => ∃ ts : List Int, ts.length = n ∧ (∀ t ∈ ts, Sz 60 t) ∧ vs = [some (.pv (lstI ts))]) ?_ ?_
    · simp (maxSteps := 3000000) (disch := decide) only [↓psE, psO, forall_const, ↓iAdd, ↓iSub, ↓iMul, ↓iDiv, ↓iMod, ↓iPow, ↓iLt, ↓iLe, ↓iGt, ↓iGe, T.ne_Ratio_Vector, T.ne_Ratio_Poly, T.ne_Vector_Ratio, T.ne_Vector_Poly, T.ne_Poly_Ratio, T.ne_Poly_Vector, T.ne_Empty_ZeroBottom, T.ne_ZeroBottom_Empty, ↓reduceIte, Nat.reduceLeDiff, Nat.reduceLT, reduceCtorEq, isiInt, isiBool, isiStr, isiC, isiTup, isiLst, isiOr, nfC, inL, startP, startI, setAll, List.replicate, Nat.reduceSub, Nat.reduceAdd]
      split
      · refine ⟨by rw [List.length_map]; omega, coll_ints (fun _ => 0) ts (fun t ht R r => ?_) ?_⟩
        · simp (maxSteps := 3000000) (disch := decide) only [↓psE, psO, forall_const, ↓iAdd, ↓iSub, ↓iMul, ↓iDiv, ↓iMod, ↓iPow, ↓iLt, ↓iLe, ↓iGt, ↓iGe, T.ne_Ratio_Vector, T.ne_Ratio_Poly, T.ne_Vector_Ratio, T.ne_Vector_Poly, T.ne_Poly_Ratio, T.ne_Poly_Vector, T.ne_Empty_ZeroBottom, T.ne_ZeroBottom_Empty, ↓reduceIte, Nat.reduceLeDiff, Nat.reduceLT, reduceCtorEq, isiInt, isiBool, isiStr, isiC, isiTup, isiLst, isiOr, nfC, inL, startP, startI, setAll, List.replicate, Nat.reduceSub, Nat.reduceAdd]
          exact r
        · refine ⟨[_], ⟨ts.map fun _ => 0, by rw [List.length_map]; exact htl, fun t ht => ?_, rfl⟩, rfl⟩
          obtain ⟨_, _, rfl⟩ := List.mem_map.mp ht
          exact sz_small (by decide) (by decide) (by decide)
      · exact ⟨[_], ⟨ts, htl, hts, rfl⟩, rfl⟩
    rintro vs ⟨ts, htl, hts, rfl⟩
    refine cutS [5, 7] (fun vs => ∃ (ts : List Int) (b : Int), ts.length = n ∧ (∀ t ∈ ts, Sz 60 t) ∧ Sz 60 b ∧ vs = [some (.pv (lstI ts)), some (.pv (.int b))]) ?_ ?_
    · simp (maxSteps := 3000000) (disch := decide) only [↓psE, psO, forall_const, ↓iAdd, ↓iSub, ↓iMul, ↓iDiv, ↓iMod, ↓iPow, ↓iLt, ↓iLe, ↓iGt, ↓iGe, T.ne_Ratio_Vector, T.ne_Ratio_Poly, T.ne_Vector_Ratio, T.ne_Vector_Poly, T.ne_Poly_Ratio, T.ne_Poly_Vector, T.ne_Empty_ZeroBottom, T.ne_ZeroBottom_Empty, ↓reduceIte, Nat.reduceLeDiff, Nat.reduceLT, reduceCtorEq, isiInt, isiBool, isiStr, isiC, isiTup, isiLst, isiOr, nfC, inL, startP, startI, setAll, List.replicate, Nat.reduceSub, Nat.reduceAdd]
      split
      · refine ⟨by omega, by omega, by rw [rangeP_len]; omega, coll_sats (fun r => Sz 60 r) _ (fun x hx R hR => ?_) fun us hul hus => ?_⟩
        · obtain ⟨k, hk⟩ := List.getElem?_of_mem hx
          obtain ⟨hk1, rfl⟩ := rangeP_at hk
          simp (maxSteps := 3000000) (disch := decide) only [↓psE, psO, forall_const, ↓iAdd, ↓iSub, ↓iMul, ↓iDiv, ↓iMod, ↓iPow, ↓iLt, ↓iLe, ↓iGt, ↓iGe, T.ne_Ratio_Vector, T.ne_Ratio_Poly, T.ne_Vector_Ratio, T.ne_Vector_Poly, T.ne_Poly_Ratio, T.ne_Poly_Vector, T.ne_Empty_ZeroBottom, T.ne_ZeroBottom_Empty, ↓reduceIte, Nat.reduceLeDiff, Nat.reduceLT, reduceCtorEq, isiInt, isiBool, isiStr, isiC, isiTup, isiLst, isiOr, nfC, inL, startP, startI, setAll, List.replicate, Nat.reduceSub, Nat.reduceAdd, ↓i_law_wide]
          exact ⟨mulR (by omega), by decide, by omega, hn, fun r hr => hR r hr⟩
        · simp (maxSteps := 3000000) (disch := decide) only [↓psE, psO, forall_const, ↓iAdd, ↓iSub, ↓iMul, ↓iDiv, ↓iMod, ↓iPow, ↓iLt, ↓iLe, ↓iGt, ↓iGe, T.ne_Ratio_Vector, T.ne_Ratio_Poly, T.ne_Vector_Ratio, T.ne_Vector_Poly, T.ne_Poly_Ratio, T.ne_Poly_Vector, T.ne_Empty_ZeroBottom, T.ne_ZeroBottom_Empty, ↓reduceIte, Nat.reduceLeDiff, Nat.reduceLT, reduceCtorEq, isiInt, isiBool, isiStr, isiC, isiTup, isiLst, isiOr, nfC, inL, startP, startI, setAll, List.replicate, Nat.reduceSub, Nat.reduceAdd, ↓i_law_wide]
          rw [rangeP_len] at hul
          exact ⟨by omega, hn, fun r hr => ⟨[_, _], ⟨us, _, by omega, hus, hr.abs, rfl⟩, rfl⟩⟩
      · exact ⟨[_, _], ⟨ts, b, htl, hts, sb.1, rfl⟩, rfl⟩
    rintro vs ⟨ts, b, htl, hts, sb, rfl⟩
    refine cutS [7] (fun vs => ∃ (b : Int), b ≠ 0 ∧ Sz 60 b ∧ vs = [some (.pv (.int b))]) ?_ ?_
    · simp (maxSteps := 3000000) (disch := decide) only [↓psE, psO, forall_const, ↓iAdd, ↓iSub, ↓iMul, ↓iDiv, ↓iMod, ↓iPow, ↓iLt, ↓iLe, ↓iGt, ↓iGe, T.ne_Ratio_Vector, T.ne_Ratio_Poly, T.ne_Vector_Ratio, T.ne_Vector_Poly, T.ne_Poly_Ratio, T.ne_Poly_Vector, T.ne_Empty_ZeroBottom, T.ne_ZeroBottom_Empty, ↓reduceIte, Nat.reduceLeDiff, Nat.reduceLT, reduceCtorEq, isiInt, isiBool, isiStr, isiC, isiTup, isiLst, isiOr, nfC, inL, startP, startI, setAll, List.replicate, Nat.reduceSub, Nat.reduceAdd]
      split
      · exact ⟨[_], ⟨1, by decide, sz_small (by decide) (by decide) (by decide), rfl⟩, rfl⟩
      · rename_i e
        exact ⟨[_], ⟨b, e, sb, rfl⟩, rfl⟩
    rintro vs ⟨b, hb, sb, rfl⟩
    simp (maxSteps := 3000000) (disch := decide) only [↓psE, psO, forall_const, ↓iAdd, ↓iSub, ↓iMul, ↓iDiv, ↓iMod, ↓iPow, ↓iLt, ↓iLe, ↓iGt, ↓iGe, T.ne_Ratio_Vector, T.ne_Ratio_Poly, T.ne_Vector_Ratio, T.ne_Vector_Poly, T.ne_Poly_Ratio, T.ne_Poly_Vector, T.ne_Empty_ZeroBottom, T.ne_ZeroBottom_Empty, ↓reduceIte, Nat.reduceLeDiff, Nat.reduceLT, reduceCtorEq, isiInt, isiBool, isiStr, isiC, isiTup, isiLst, isiOr, nfC, inL, startP, startI, setAll, List.replicate, Nat.reduceSub, Nat.reduceAdd]
    refine cutS [10] (fun vs => ∃ (f : Int), 0 < f ∧ f ≤ 31 ∧ vs = [some (.pv (.int f))]) ?_ ?_
    · simp (maxSteps := 3000000) (disch := decide) only [↓psE, psO, forall_const, ↓iAdd, ↓iSub, ↓iMul, ↓iDiv, ↓iMod, ↓iPow, ↓iLt, ↓iLe, ↓iGt, ↓iGe, T.ne_Ratio_Vector, T.ne_Ratio_Poly, T.ne_Vector_Ratio, T.ne_Vector_Poly, T.ne_Poly_Ratio, T.ne_Poly_Vector, T.ne_Empty_ZeroBottom, T.ne_ZeroBottom_Empty, ↓reduceIte, Nat.reduceLeDiff, Nat.reduceLT, reduceCtorEq, isiInt, isiBool, isiStr, isiC, isiTup, isiLst, isiOr, nfC, inL, startP, startI, setAll, List.replicate, Nat.reduceSub, Nat.reduceAdd]
      refine ⟨by decide, ?_⟩
      split
      · exact ⟨divR (by decide) (by decide), by decide, ⟨[_], ⟨_, by omega, by omega, rfl⟩, rfl⟩⟩
      · exact ⟨[_], ⟨1, by decide, by decide, rfl⟩, rfl⟩
    rintro vs ⟨f, f0, f31, rfl⟩
    refine cutS [10] (fun vs => ∃ (f : Int), f ≠ 0 ∧ -31 ≤ f ∧ f ≤ 31 ∧ vs = [some (.pv (.int f))]) ?_ ?_
    · simp (maxSteps := 3000000) (disch := decide) only [↓psE, psO, forall_const, ↓iAdd, ↓iSub, ↓iMul, ↓iDiv, ↓iMod, ↓iPow, ↓iLt, ↓iLe, ↓iGt, ↓iGe, T.ne_Ratio_Vector, T.ne_Ratio_Poly, T.ne_Vector_Ratio, T.ne_Vector_Poly, T.ne_Poly_Ratio, T.ne_Poly_Vector, T.ne_Empty_ZeroBottom, T.ne_ZeroBottom_Empty, ↓reduceIte, Nat.reduceLeDiff, Nat.reduceLT, reduceCtorEq, isiInt, isiBool, isiStr, isiC, isiTup, isiLst, isiOr, nfC, inL, startP, startI, setAll, List.replicate, Nat.reduceSub, Nat.reduceAdd]
      refine ⟨by decide, ?_⟩
      split
      · exact ⟨[_], ⟨_, by omega, by omega, by omega, rfl⟩, rfl⟩
      · exact ⟨[_], ⟨f, by omega, by omega, f31, rfl⟩, rfl⟩
    rintro vs ⟨f, f0, f1, f31, rfl⟩
    simp (maxSteps := 3000000) (disch := decide) only [↓psE, psO, forall_const, ↓iAdd, ↓iSub, ↓iMul, ↓iDiv, ↓iMod, ↓iPow, ↓iLt, ↓iLe, ↓iGt, ↓iGe, T.ne_Ratio_Vector, T.ne_Ratio_Poly, T.ne_Vector_Ratio, T.ne_Vector_Poly, T.ne_Poly_Ratio, T.ne_Poly_Vector, T.ne_Empty_ZeroBottom, T.ne_ZeroBottom_Empty, ↓reduceIte, Nat.reduceLeDiff, Nat.reduceLT, reduceCtorEq, isiInt, isiBool, isiStr, isiC, isiTup, isiLst, isiOr, nfC, inL, startP, startI, setAll, List.replicate, Nat.reduceSub, Nat.reduceAdd]
    have sf : Sz 6 f := sz_small (by omega) (by omega) (by decide)
    refine ⟨by rw [List.length_map]; omega, coll_ints (fun t => t * f) ts (fun t ht R r => ?_) ?_⟩
    · simp (maxSteps := 3000000) (disch := decide) only [↓psE, psO, forall_const, ↓iAdd, ↓iSub, ↓iMul, ↓iDiv, ↓iMod, ↓iPow, ↓iLt, ↓iLe, ↓iGt, ↓iGe, T.ne_Ratio_Vector, T.ne_Ratio_Poly, T.ne_Vector_Ratio, T.ne_Vector_Poly, T.ne_Poly_Ratio, T.ne_Poly_Vector, T.ne_Empty_ZeroBottom, T.ne_ZeroBottom_Empty, ↓reduceIte, Nat.reduceLeDiff, Nat.reduceLT, reduceCtorEq, isiInt, isiBool, isiStr, isiC, isiTup, isiLst, isiOr, nfC, inL, startP, startI, setAll, List.replicate, Nat.reduceSub, Nat.reduceAdd]
      exact ⟨mulR (by omega), r⟩
    · refine ⟨mulR (by omega), h _ _ (by rw [List.length_map]; exact htl) (fun t ht => ?_) (Int.mul_ne_zero hb f0) ((sb.mul sf).mono (by decide))⟩
      obtain ⟨u, hu, rfl⟩ := List.mem_map.mp ht
      exact ((hts u hu).mul sf).mono (by decide)

theorem ok_law_factors (T : Txt K mg a) (S : Fs K a d) : FnOk P w K mg base (L2.CX P w) 3 a.f_law_factors d.d_law_factors ["script", "draws"] (spP K (P_law_factors a)) := by
  refine fa_q (k := 2) S.F_law_factors sc_law_factors (len_law_factors a) (fun cdv A outer s H E hr =>
    (jss_cons (js_set 2 sc_law_factors.nd (je_call (ok_law_small T S) (hr.mono (by decide)) T.mg_law_small S.F_law_small.kp S.B_law_small .nil (fun _ => .nil) (tkOf (takes_of rfl rfl rfl rfl)) (ja_cons (je_ix (je_var 1) je_int) ja_nil)))
      (jss_cons (js_own 3 sc_law_factors.nd (ja_cons (je_call (ok_law_small T S) (hr.mono (by decide)) T.mg_law_small S.F_law_small.kp S.B_law_small .nil (fun _ => .nil) (tkOf (takes_of rfl rfl rfl rfl)) (ja_cons (je_ix (je_var 1) je_int) ja_nil)) (ja_cons (je_call (ok_law_small T S) (hr.mono (by decide)) T.mg_law_small S.F_law_small.kp S.B_law_small .nil (fun _ => .nil) (tkOf (takes_of rfl rfl rfl rfl)) (ja_cons (je_ix (je_var 1) je_int) ja_nil)) ja_nil)))
      (jss_cut (js_if (jt_eq (je_mod (je_toint T.b_int (ja_cons (je_ix (je_var 1) je_int) ja_nil)) je_int) je_int) (jss_cons (js_set 2 sc_law_factors.nd (je_call (ok_law_wide T S) (hr.mono (by decide)) T.mg_law_wide S.F_law_wide.kp S.B_law_wide .nil (fun _ => .nil) (tkOf (takes_of rfl rfl rfl rfl)) (ja_cons (je_var 0) (ja_cons je_int ja_nil))))
      (jss_one (js_own 3 sc_law_factors.nd (ja_cons (je_call (ok_law_wide T S) (hr.mono (by decide)) T.mg_law_wide S.F_law_wide.kp S.B_law_wide .nil (fun _ => .nil) (tkOf (takes_of rfl rfl rfl rfl)) (ja_cons (je_var 0) (ja_cons je_int ja_nil))) (ja_cons (je_call (ok_law_wide T S) (hr.mono (by decide)) T.mg_law_wide S.F_law_wide.kp S.B_law_wide .nil (fun _ => .nil) (tkOf (takes_of rfl rfl rfl rfl)) (ja_cons (je_var 0) (ja_cons je_int ja_nil))) ja_nil))))) jss_nil)
      (jss_cut (js_if (jt_eq (je_ixO 3 je_int) je_int) (jss_one (js_setix 3 je_int je_int)) jss_nil)
      (jss_freeze 3 (jss_one (js_ret (je_tup (ja_cons (je_var 2) (ja_cons (je_var 3) ja_nil))))))))))) ?pure
  case pure =>
    rintro xs y Q ⟨ns, ds, rfl, ⟨hn, hd⟩, h⟩
    match ds, hd with
    | [d0, d1, d2, d3, d4, d5, d6, d7], _ =>
    simp (maxSteps := 3000000) (disch := decide) only [↓psE, psO, forall_const, ↓iAdd, ↓iSub, ↓iMul, ↓iDiv, ↓iMod, ↓iPow, ↓iLt, ↓iLe, ↓iGt, ↓iGe, T.ne_Ratio_Vector, T.ne_Ratio_Poly, T.ne_Vector_Ratio, T.ne_Vector_Poly, T.ne_Poly_Ratio, T.ne_Poly_Vector, T.ne_Empty_ZeroBottom, T.ne_ZeroBottom_Empty, ↓reduceIte, Nat.reduceLeDiff, Nat.reduceLT, reduceCtorEq, isiInt, isiBool, isiStr, isiC, isiTup, isiLst, isiOr, nfC, inL, startP, startI, setAll, List.replicate, Nat.reduceSub, Nat.reduceAdd, ↓i_law_small]
    intro n n1 n2 p p1 p2 q q1 q2
    refine cutS [2, 3] (fun vs => ∃ n p q : Int, Sz 60 n ∧ Sz 60 p ∧ Sz 60 q ∧ vs = [some (.pv (.int n)), some (.own [.int p, .int q])]) ?_ ?_
    · simp (maxSteps := 3000000) (disch := decide) only [↓psE, psO, forall_const, ↓iAdd, ↓iSub, ↓iMul, ↓iDiv, ↓iMod, ↓iPow, ↓iLt, ↓iLe, ↓iGt, ↓iGe, T.ne_Ratio_Vector, T.ne_Ratio_Poly, T.ne_Vector_Ratio, T.ne_Vector_Poly, T.ne_Poly_Ratio, T.ne_Poly_Vector, T.ne_Empty_ZeroBottom, T.ne_ZeroBottom_Empty, ↓reduceIte, Nat.reduceLeDiff, Nat.reduceLT, reduceCtorEq, isiInt, isiBool, isiStr, isiC, isiTup, isiLst, isiOr, nfC, inL, startP, startI, setAll, List.replicate, Nat.reduceSub, Nat.reduceAdd, ↓i_law_wide]
      refine ⟨by decide, ?_⟩
      split
      · refine ⟨by decide, hn, fun n sn => ⟨by decide, hn, fun p sp => ⟨by decide, hn, fun q sq => ⟨[_, _], ⟨n, p, q, sn, sp, sq, rfl⟩, rfl⟩⟩⟩⟩
      · exact ⟨[_, _], ⟨n, p, q, sz_small n1 (by omega) (by decide), sz_small p1 (by omega) (by decide), sz_small q1 (by omega) (by decide), rfl⟩, rfl⟩
    rintro vs ⟨n, p, q, sn, sp, sq, rfl⟩
    refine cutS [3] (fun vs => ∃ q : Int, q ≠ 0 ∧ Sz 60 q ∧ vs = [some (.own [.int p, .int q])]) ?_ ?_
    · simp (maxSteps := 3000000) (disch := decide) only [↓psE, psO, forall_const, ↓iAdd, ↓iSub, ↓iMul, ↓iDiv, ↓iMod, ↓iPow, ↓iLt, ↓iLe, ↓iGt, ↓iGe, T.ne_Ratio_Vector, T.ne_Ratio_Poly, T.ne_Vector_Ratio, T.ne_Vector_Poly, T.ne_Poly_Ratio, T.ne_Poly_Vector, T.ne_Empty_ZeroBottom, T.ne_ZeroBottom_Empty, ↓reduceIte, Nat.reduceLeDiff, Nat.reduceLT, reduceCtorEq, isiInt, isiBool, isiStr, isiC, isiTup, isiLst, isiOr, nfC, inL, startP, startI, setAll, List.replicate, Nat.reduceSub, Nat.reduceAdd]
      split
      · exact ⟨[_], ⟨1, by decide, sz_small (by decide) (by decide) (by decide), rfl⟩, rfl⟩
      · rename_i e
        exact ⟨[_], ⟨q, e, sq, rfl⟩, rfl⟩
    rintro vs ⟨q, hq, sq, rfl⟩
    simp (maxSteps := 3000000) (disch := decide) only [↓psE, psO, forall_const, ↓iAdd, ↓iSub, ↓iMul, ↓iDiv, ↓iMod, ↓iPow, ↓iLt, ↓iLe, ↓iGt, ↓iGe, T.ne_Ratio_Vector, T.ne_Ratio_Poly, T.ne_Vector_Ratio, T.ne_Vector_Poly, T.ne_Poly_Ratio, T.ne_Poly_Vector, T.ne_Empty_ZeroBottom, T.ne_ZeroBottom_Empty, ↓reduceIte, Nat.reduceLeDiff, Nat.reduceLT, reduceCtorEq, isiInt, isiBool, isiStr, isiC, isiTup, isiLst, isiOr, nfC, inL, startP, startI, setAll, List.replicate, Nat.reduceSub, Nat.reduceAdd]
    exact h n p q (sn.mono (by decide)) (sp.mono (by decide)) (sq.mono (by decide)) hq

theorem ok_law_is_ratio (T : Txt K mg a) (S : Fs K a d) : FnOk P w K mg base (L2.CX P w) 2 a.f_law_is_ratio d.d_law_is_ratio ["x", "pair"] (spP K (P_law_is_ratio a)) := by
  refine fa_q (k := 1) S.F_law_is_ratio sc_law_is_ratio (len_law_is_ratio a) (fun cdv A outer s H E hr =>
    (jss_cons (js_if (jt_w (jw_or (jt_not (jt_val (je_isiC (kit_c (os := [a.C_Vector, a.C_Poly]) T.is_Ratio T.kc_Ratio T.ko_Ratio) T.b_isinstance (je_var 0) T.mg_Ratio))) (jw_or (jt_not (jt_val (je_call (ok_law_is_integer T S) (hr.mono (by decide)) T.mg_law_is_integer S.F_law_is_integer.kp S.B_law_is_integer .nil (fun _ => .nil) (tkOf (takes_of rfl rfl rfl rfl)) (ja_cons (je_fld (je_var 0) T.cl_Ratio T.na_Ratio_top) ja_nil)))) (jw_or1 (jt_not (jt_val (je_call (ok_law_is_integer T S) (hr.mono (by decide)) T.mg_law_is_integer S.F_law_is_integer.kp S.B_law_is_integer .nil (fun _ => .nil) (tkOf (takes_of rfl rfl rfl rfl)) (ja_cons (je_fld (je_var 0) T.cl_Ratio T.na_Ratio_bottom) ja_nil)))))))) (jss_one (js_ret je_bl)) jss_nil)
      (jss_one (js_ret (je_and (je_eq (je_fld (je_var 0) T.cl_Ratio T.na_Ratio_top) (je_ix (je_var 1) je_int)) (je_one (je_eq (je_fld (je_var 0) T.cl_Ratio T.na_Ratio_bottom) (je_ix (je_var 1) je_int)))))))) ?pure
  case pure =>
    rintro xs y Q ⟨t, b, p0, p1, rfl, h⟩
    simp (maxSteps := 3000000) (disch := decide) only [↓psE, psO, forall_const, ↓iAdd, ↓iSub, ↓iMul, ↓iDiv, ↓iMod, ↓iPow, ↓iLt, ↓iLe, ↓iGt, ↓iGe, T.ne_Ratio_Vector, T.ne_Ratio_Poly, T.ne_Vector_Ratio, T.ne_Vector_Poly, T.ne_Poly_Ratio, T.ne_Poly_Vector, T.ne_Empty_ZeroBottom, T.ne_ZeroBottom_Empty, ↓reduceIte, Nat.reduceLeDiff, Nat.reduceLT, reduceCtorEq, isiInt, isiBool, isiStr, isiC, isiTup, isiLst, isiOr, nfC, inL, startP, startI, setAll, List.replicate, Nat.reduceSub, Nat.reduceAdd, ↓i_law_is_integer]
    split
    · rename_i e
      subst e
      simpa using h
    · rename_i e
      have : (t == p0) = false := beq_eq_false_iff_ne.mpr e
      rw [this] at h
      exact h

theorem ok_law_is (T : Txt K mg a) (S : Fs K a d) : FnOk P w K mg base (L2.CX P w) 2 a.f_law_is d.d_law_is ["v", "low"] (spP K (P_law_is a)) := by
  refine fa_q (k := 1) S.F_law_is sc_law_is (len_law_is a) (fun cdv A outer s H E hr =>
    (jss_cons (js_if (jt_w (jw_or (jt_not (jt_val (je_isiC (kit_c (os := [a.C_Ratio, a.C_Poly]) T.is_Vector T.kc_Vector T.ko_Vector) T.b_isinstance (je_var 0) T.mg_Vector))) (jw_or (jt_not (jt_val (je_isiT (kit_tup (os := [a.C_Ratio, a.C_Vector, a.C_Poly]) T.ko_tuple) T.b_isinstance (je_fld (je_var 0) T.cl_Vector T.na_Vector_tops) T.b_tuple))) (jw_or1 (jt_ne (je_len T.b_len (ja_cons (je_fld (je_var 0) T.cl_Vector T.na_Vector_tops) ja_nil)) (je_len T.b_len (ja_cons (je_ix (je_var 1) je_int) ja_nil))))))) (jss_one (js_ret je_bl)) jss_nil)
      (jss_cut (js_forR1 2 (passes_of rfl) rfl sc_law_is.nd T.b_range (ja_cons (je_len T.b_len (ja_cons (je_ix (je_var 1) je_int) ja_nil)) ja_nil)
        (jss_one (js_if (jt_w (jw_or (jt_not (jt_val (je_call (ok_law_is_integer T S) (hr.mono (by decide)) T.mg_law_is_integer S.F_law_is_integer.kp S.B_law_is_integer .nil (fun _ => .nil) (tkOf (takes_of rfl rfl rfl rfl)) (ja_cons (je_ix (je_fld (je_var 0) T.cl_Vector T.na_Vector_tops) (je_var 2)) ja_nil)))) (jw_or1 (jt_ne (je_ix (je_fld (je_var 0) T.cl_Vector T.na_Vector_tops) (je_var 2)) (je_ix (je_ix (je_var 1) je_int) (je_var 2)))))) (jss_one (js_ret je_bl)) jss_nil)))
      (jss_one (js_ret (je_and (je_call (ok_law_is_integer T S) (hr.mono (by decide)) T.mg_law_is_integer S.F_law_is_integer.kp S.B_law_is_integer .nil (fun _ => .nil) (tkOf (takes_of rfl rfl rfl rfl)) (ja_cons (je_fld (je_var 0) T.cl_Vector T.na_Vector_bottom) ja_nil)) (je_one (je_eq (je_fld (je_var 0) T.cl_Vector T.na_Vector_bottom) (je_ix (je_var 1) je_int))))))))) ?pure
  case pure =>
    rintro xs y Q ⟨ts, b, us, c, rfl, hl, h⟩
    simp (maxSteps := 3000000) (disch := decide) only [↓psE, psO, forall_const, ↓iAdd, ↓iSub, ↓iMul, ↓iDiv, ↓iMod, ↓iPow, ↓iLt, ↓iLe, ↓iGt, ↓iGe, T.ne_Ratio_Vector, T.ne_Ratio_Poly, T.ne_Vector_Ratio, T.ne_Vector_Poly, T.ne_Poly_Ratio, T.ne_Poly_Vector, T.ne_Empty_ZeroBottom, T.ne_ZeroBottom_Empty, ↓reduceIte, Nat.reduceLeDiff, Nat.reduceLT, reduceCtorEq, isiInt, isiBool, isiStr, isiC, isiTup, isiLst, isiOr, nfC, inL, startP, startI, setAll, List.replicate, Nat.reduceSub, Nat.reduceAdd, List.length_map, Int.natCast_inj, Int.toNat_natCast, Int.zero_add, toD_lst, toD_tup, shaped_lst, shaped_tup, eqv_lst, eqv_tup, toD_nil, shaped_nil, eqv_nil, List.length_set, List.length_range, rangeP_len, ixN_0, ↓i_law_is_integer]
    by_cases e : ts.length = us.length
    · rw [if_neg (fun z => z e)]
      have fin : ts = us → Q (.bl (b == c)) := fun z => by subst z; simpa using h
      refine cutS [2] (fun vs => ts = us ∧ ∃ v, vs = [v]) ?_ ?_
      · simp (maxSteps := 3000000) (disch := decide) only [↓psE, psO, forall_const, ↓iAdd, ↓iSub, ↓iMul, ↓iDiv, ↓iMod, ↓iPow, ↓iLt, ↓iLe, ↓iGt, ↓iGe, T.ne_Ratio_Vector, T.ne_Ratio_Poly, T.ne_Vector_Ratio, T.ne_Vector_Poly, T.ne_Poly_Ratio, T.ne_Poly_Vector, T.ne_Empty_ZeroBottom, T.ne_ZeroBottom_Empty, ↓reduceIte, Nat.reduceLeDiff, Nat.reduceLT, reduceCtorEq, isiInt, isiBool, isiStr, isiC, isiTup, isiLst, isiOr, nfC, inL, startP, startI, setAll, List.replicate, Nat.reduceSub, Nat.reduceAdd, List.length_map, Int.natCast_inj, Int.toNat_natCast, Int.zero_add, toD_lst, toD_tup, shaped_lst, shaped_tup, eqv_lst, eqv_tup, toD_nil, shaped_nil, eqv_nil, List.length_set, List.length_range, rangeP_len, ixN_0]
        refine ⟨by omega, by omega, ?_⟩
        refine loopS [2] (fun k vs => ts.take k = us.take k ∧ ∃ v, vs = [v]) [none] rfl ⟨rfl, _, rfl⟩ ?_ ?_
        · rintro k x vs N hx hN ⟨he, v, rfl⟩
          obtain ⟨hk, rfl⟩ := rangeP_at hx
          have hk2 : k < ts.length := by omega
          simp (maxSteps := 3000000) (disch := decide) only [↓psE, psO, forall_const, ↓iAdd, ↓iSub, ↓iMul, ↓iDiv, ↓iMod, ↓iPow, ↓iLt, ↓iLe, ↓iGt, ↓iGe, T.ne_Ratio_Vector, T.ne_Ratio_Poly, T.ne_Vector_Ratio, T.ne_Vector_Poly, T.ne_Poly_Ratio, T.ne_Poly_Vector, T.ne_Empty_ZeroBottom, T.ne_ZeroBottom_Empty, ↓reduceIte, Nat.reduceLeDiff, Nat.reduceLT, reduceCtorEq, isiInt, isiBool, isiStr, isiC, isiTup, isiLst, isiOr, nfC, inL, startP, startI, setAll, List.replicate, Nat.reduceSub, Nat.reduceAdd, List.length_map, Int.natCast_inj, Int.toNat_natCast, Int.zero_add, toD_lst, toD_tup, shaped_lst, shaped_tup, eqv_lst, eqv_tup, toD_nil, shaped_nil, eqv_nil, List.length_set, List.length_range, rangeP_len, ixN_0, ↓i_law_is_integer, atI_get (List.getElem?_eq_getElem hk), atI_get (List.getElem?_eq_getElem hk2)]
          split
          · rename_i hne
            have : ts ≠ us := by
              rintro rfl
              exact hne rfl
            rw [beq_eq_false_iff_ne.mpr this] at h
            exact h
          · rename_i hee
            have hee : ts[k] = us[k] := by simpa using hee
            refine hN [_] ⟨?_, _, rfl⟩
            rw [take_succ (List.getElem?_eq_getElem hk), take_succ (List.getElem?_eq_getElem hk2), he, hee]
        · rintro vs ⟨he, v, rfl⟩
          rw [rangeP_len] at he
          refine ⟨[_], ⟨?_, _, rfl⟩, rfl⟩
          rw [List.take_length, ← e, List.take_length] at he
          exact he
      · rintro vs ⟨he, v, rfl⟩
        simp (maxSteps := 3000000) (disch := decide) only [↓psE, psO, forall_const, ↓iAdd, ↓iSub, ↓iMul, ↓iDiv, ↓iMod, ↓iPow, ↓iLt, ↓iLe, ↓iGt, ↓iGe, T.ne_Ratio_Vector, T.ne_Ratio_Poly, T.ne_Vector_Ratio, T.ne_Vector_Poly, T.ne_Poly_Ratio, T.ne_Poly_Vector, T.ne_Empty_ZeroBottom, T.ne_ZeroBottom_Empty, ↓reduceIte, Nat.reduceLeDiff, Nat.reduceLT, reduceCtorEq, isiInt, isiBool, isiStr, isiC, isiTup, isiLst, isiOr, nfC, inL, startP, startI, setAll, List.replicate, Nat.reduceSub, Nat.reduceAdd, List.length_map, Int.natCast_inj, Int.toNat_natCast, Int.zero_add, toD_lst, toD_tup, shaped_lst, shaped_tup, eqv_lst, eqv_tup, toD_nil, shaped_nil, eqv_nil, List.length_set, List.length_range, rangeP_len, ixN_0, ↓i_law_is_integer]
        exact fin he
    · rw [if_pos e]
      have : ts ≠ us := by
        rintro rfl
        exact e rfl
      rw [beq_eq_false_iff_ne.mpr this] at h
      exact h

theorem ok_law_truth (T : Txt K mg a) (S : Fs K a d) : FnOk P w K mg base (L2.CX P w) 1 a.f_law_truth d.d_law_truth ["x", "due"] (spP K (P_law_truth a)) := by
  refine fa_q (k := 0) S.F_law_truth sc_law_truth (len_law_truth a) (fun cdv A outer s H E hr =>
    (jss_one (js_ret (je_and (je_isiT (kit_bool (os := [a.C_Ratio, a.C_Vector, a.C_Poly]) T.ko_bool) T.b_isinstance (je_var 0) T.b_bool) (je_one (je_eq (je_var 0) (je_var 1))))))) ?pure
  case pure =>
    rintro xs y Q ⟨b, c, rfl, h⟩
    simp (maxSteps := 3000000) (disch := decide) only [↓psE, psO, forall_const, ↓iAdd, ↓iSub, ↓iMul, ↓iDiv, ↓iMod, ↓iPow, ↓iLt, ↓iLe, ↓iGt, ↓iGe, T.ne_Ratio_Vector, T.ne_Ratio_Poly, T.ne_Vector_Ratio, T.ne_Vector_Poly, T.ne_Poly_Ratio, T.ne_Poly_Vector, T.ne_Empty_ZeroBottom, T.ne_ZeroBottom_Empty, ↓reduceIte, Nat.reduceLeDiff, Nat.reduceLT, reduceCtorEq, isiInt, isiBool, isiStr, isiC, isiTup, isiLst, isiOr, nfC, inL, startP, startI, setAll, List.replicate, Nat.reduceSub, Nat.reduceAdd]
    exact h

theorem ok_law_made (T : Txt K mg a) (S : Fs K a d) : FnOk P w K mg base (L2.CX P w) 5 a.f_law_made d.d_law_made ["thing"] (spP K (P_law_made a)) := by
  refine fa_q (k := 4) S.F_law_made sc_law_made (len_law_made a) (fun cdv A outer s H E hr =>
    (jss_cons (js_ownL 1 sc_law_made.nd T.b_list (ja_cons (je_ix (je_var 0) je_int) ja_nil))
      (jss_cons (js_set 2 sc_law_made.nd (je_lend 1 (je_make T.mk_Vector (ok_Vector_init T S) (hr.mono (by decide)) T.mg_Vector S.B_Vector_init .nil (fun _ => .nil) (tkOf (takes_of rfl rfl rfl rfl)) (ja_cons (je_var 1) (ja_cons (je_ix (je_var 0) je_int) ja_nil)))))
      (jss_cons (js_if (jt_lend 1 (jt_neD hr (je_var 1) (je_ix (je_var 0) je_int))) (jss_one (js_ret je_non)) jss_nil)
      (jss_cons (js_setix 1 (je_add (je_ixO 1 je_int) je_int) je_int)
      (jss_cons (js_app 1 je_int (hpe := pe_bm PySem.F.plainAttrs_list PySem.F.slot_list_append PySem.F.type_list_append mt_append (pv 1) (pa_cons je_int pa_nil)))
      (jss_one (js_ret (je_var 2))))))))) ?pure
  case pure =>
    rintro xs y Q ⟨ts, b, rfl, ⟨h1, h2, h3, h4, h5⟩, h⟩
    simp (maxSteps := 3000000) (disch := decide) only [↓psE, psO, forall_const, ↓iAdd, ↓iSub, ↓iMul, ↓iDiv, ↓iMod, ↓iPow, ↓iLt, ↓iLe, ↓iGt, ↓iGe, T.ne_Ratio_Vector, T.ne_Ratio_Poly, T.ne_Vector_Ratio, T.ne_Vector_Poly, T.ne_Poly_Ratio, T.ne_Poly_Vector, T.ne_Empty_ZeroBottom, T.ne_ZeroBottom_Empty, ↓reduceIte, Nat.reduceLeDiff, Nat.reduceLT, reduceCtorEq, isiInt, isiBool, isiStr, isiC, isiTup, isiLst, isiOr, nfC, inL, startP, startI, setAll, List.replicate, Nat.reduceSub, Nat.reduceAdd, List.length_map, Int.natCast_inj, Int.toNat_natCast, Int.zero_add, toD_lst, toD_tup, shaped_lst, shaped_tup, eqv_lst, eqv_tup, toD_nil, shaped_nil, eqv_nil, List.length_set, List.length_range, rangeP_len, ixN_0, ↓i_initL]
    refine ⟨fun z => absurd z h4, fun _ z => absurd z h3, fun _ _ => ⟨⟨by omega, h2.mono (by decide)⟩, noL_vec _ _ _, ?_⟩⟩
    obtain ⟨t, ts, rfl⟩ := List.exists_cons_of_ne_nil h4
    simp (maxSteps := 3000000) (disch := decide) only [↓psE, psO, forall_const, ↓iAdd, ↓iSub, ↓iMul, ↓iDiv, ↓iMod, ↓iPow, ↓iLt, ↓iLe, ↓iGt, ↓iGe, T.ne_Ratio_Vector, T.ne_Ratio_Poly, T.ne_Vector_Ratio, T.ne_Vector_Poly, T.ne_Poly_Ratio, T.ne_Poly_Vector, T.ne_Empty_ZeroBottom, T.ne_ZeroBottom_Empty, ↓reduceIte, Nat.reduceLeDiff, Nat.reduceLT, reduceCtorEq, isiInt, isiBool, isiStr, isiC, isiTup, isiLst, isiOr, nfC, inL, startP, startI, setAll, List.replicate, Nat.reduceSub, Nat.reduceAdd, List.length_map, Int.natCast_inj, Int.toNat_natCast, Int.zero_add, toD_lst, toD_tup, shaped_lst, shaped_tup, eqv_lst, eqv_tup, toD_nil, shaped_nil, eqv_nil, List.length_set, List.length_range, rangeP_len, ixN_0]
    have : ts.length + 1 ≤ 100 := h5
    exact ⟨by omega, h⟩

theorem ok_law_alone (T : Txt K mg a) (S : Fs K a d) : FnOk P w K mg base (L2.CX P w) 7 a.f_law_alone d.d_law_alone ["v", "low", "number", "pair"] (spP K (P_law_alone a)) := by
  obtain ⟨pa_Vector_is_zero, pr_Vector_is_zero⟩ := T.pr_Vector_is_zero
  refine fa_q (k := 6) S.F_law_alone sc_law_alone (len_law_alone a) (fun cdv A outer s H E hr =>
    (jss_cons (js_if (jt_w (jw_or (jt_ne (je_lenOwn T.fi_Vector_len T.isf_Vector_len (ok_Vector_len T S) (hr.mono (by decide)) S.B_Vector_len T.b_len (ja_cons (je_var 0) ja_nil)) (je_len T.b_len (ja_cons (je_ix (je_var 1) je_int) ja_nil))) (jw_or1 (jt_not (jt_val (je_call (ok_law_truth T S) (hr.mono (by decide)) T.mg_law_truth S.F_law_truth.kp S.B_law_truth .nil (fun _ => .nil) (tkOf (takes_of rfl rfl rfl rfl)) (ja_cons (je_prop (je_var 0) T.cl_Vector pr_Vector_is_zero (ok_Vector_is_zero T S) (hr.mono (by decide)) S.B_Vector_is_zero) (ja_cons (je_eqD hr (je_lc (own := [("top", 4)]) (g := (gName 4)) (t := (tName 4)) rfl sc_law_alone.nd (ji_list (je_ix (je_var 1) je_int)) (blkOk_by (N := ["v", "low", "number", "pair", "top", "k", "due", "r", "other", "p", "twin"]) (sc := defScope s_law_alone) (by decide +kernel)) (tg_name 4) (fun _ _ _ _ _ => pg_name (i := 4) sc_law_alone.nd rfl (Or.inl rfl)) (fun _ _ _ _ _ => jts_one (jt_ne (je_var 4) je_int)) (fun _ _ _ _ _ => (je_var 4))) (je_lst ja_nil)) ja_nil)))))))) (jss_one (js_ret je_bl)) jss_nil)
      (jss_cut (js_forR1 5 (passes_of rfl) rfl sc_law_alone.nd T.b_range (ja_cons (je_len T.b_len (ja_cons (je_ix (je_var 1) je_int) ja_nil)) ja_nil)
        (jss_one (js_if (jt_not (jt_val (je_call (ok_law_is_ratio T S) (hr.mono (by decide)) T.mg_law_is_ratio S.F_law_is_ratio.kp S.B_law_is_ratio .nil (fun _ => .nil) (tkOf (takes_of rfl rfl rfl rfl)) (ja_cons (je_ixOwn T.fi_Vector_getitem T.fin_Vector_getitem T.isf_Vector_getitem (ok_Vector_getitem T S) (hr.mono (by decide)) S.B_Vector_getitem (je_var 0) (je_var 5)) (ja_cons (je_call (ok_law_ratio T S) (hr.mono (by decide)) T.mg_law_ratio S.F_law_ratio.kp S.B_law_ratio .nil (fun _ => .nil) (tkOf (takes_of rfl rfl rfl rfl)) (ja_cons (je_ix (je_ix (je_var 1) je_int) (je_var 5)) (ja_cons (je_ix (je_var 1) je_int) ja_nil))) ja_nil))))) (jss_one (js_ret je_bl)) jss_nil)))
      (jss_cons (js_if (jt_not (jt_val (je_call (ok_law_is T S) (hr.mono (by decide)) T.mg_law_is S.F_law_is.kp S.B_law_is .nil (fun _ => .nil) (tkOf (takes_of rfl rfl rfl rfl)) (ja_cons (je_una T.fi_Vector_neg T.isf_Vector_neg (ok_Vector_neg T S) (hr.mono (by decide)) S.B_Vector_neg (je_var 0)) (ja_cons (je_tup (ja_cons (je_lc (own := [("top", 4)]) (g := (gName 4)) (t := (tName 4)) rfl sc_law_alone.nd (ji_list (je_ix (je_var 1) je_int)) (blkOk_by (N := ["v", "low", "number", "pair", "top", "k", "due", "r", "other", "p", "twin"]) (sc := defScope s_law_alone) (by decide +kernel)) (tg_name 4) (fun _ _ _ _ _ => pg_name (i := 4) sc_law_alone.nd rfl (Or.inl rfl)) (fun _ _ _ _ _ => jts_nil) (fun _ _ _ _ _ => (je_neg (je_var 4)))) (ja_cons (je_ix (je_var 1) je_int) ja_nil))) ja_nil))))) (jss_one (js_ret je_bl)) jss_nil)
      (jss_cons (js_set 6 sc_law_alone.nd (je_call (ok_law_low T S) (hr.mono (by decide)) T.mg_law_low S.F_law_low.kp S.B_law_low .nil (fun _ => .nil) (tkOf (takes_of rfl rfl rfl rfl)) (ja_cons (je_lc (own := [("top", 4)]) (g := (gName 4)) (t := (tName 4)) rfl sc_law_alone.nd (ji_list (je_ix (je_var 1) je_int)) (blkOk_by (N := ["v", "low", "number", "pair", "top", "k", "due", "r", "other", "p", "twin"]) (sc := defScope s_law_alone) (by decide +kernel)) (tg_name 4) (fun _ _ _ _ _ => pg_name (i := 4) sc_law_alone.nd rfl (Or.inl rfl)) (fun _ _ _ _ _ => jts_nil) (fun _ _ _ _ _ => (je_mul (je_var 4) (je_var 2)))) (ja_cons (je_ix (je_var 1) je_int) ja_nil))))
      (jss_cons (js_if (jt_w (jw_or (jt_not (jt_val (je_call (ok_law_is T S) (hr.mono (by decide)) T.mg_law_is S.F_law_is.kp S.B_law_is .nil (fun _ => .nil) (tkOf (takes_of rfl rfl rfl rfl)) (ja_cons (je_binI T.op_Vector_mul T.oi_Vector_mul (ok_Vector_mul T S) (hr.mono (by decide)) S.B_Vector_mul (tkOf (takes_of rfl rfl rfl rfl)) (je_var 0) (je_var 2)) (ja_cons (je_var 6) ja_nil))))) (jw_or1 (jt_not (jt_val (je_call (ok_law_is T S) (hr.mono (by decide)) T.mg_law_is S.F_law_is.kp S.B_law_is .nil (fun _ => .nil) (tkOf (takes_of rfl rfl rfl rfl)) (ja_cons (je_rint T.sf_Vector T.fi_Vector_mul T.fi_Vector_rmul T.isf_Vector_rmul T.si_Vector (ok_Vector_rmul T S) (hr.mono (by decide)) S.B_Vector_rmul (tkOf (takes_of rfl rfl rfl rfl)) (je_var 2) (je_var 0)) (ja_cons (je_var 6) ja_nil)))))))) (jss_one (js_ret je_bl)) jss_nil)
      (jss_cons (js_set 6 sc_law_alone.nd (je_call (ok_law_low T S) (hr.mono (by decide)) T.mg_law_low S.F_law_low.kp S.B_law_low .nil (fun _ => .nil) (tkOf (takes_of rfl rfl rfl rfl)) (ja_cons (je_lc (own := [("top", 4)]) (g := (gName 4)) (t := (tName 4)) rfl sc_law_alone.nd (ji_list (je_ix (je_var 1) je_int)) (blkOk_by (N := ["v", "low", "number", "pair", "top", "k", "due", "r", "other", "p", "twin"]) (sc := defScope s_law_alone) (by decide +kernel)) (tg_name 4) (fun _ _ _ _ _ => pg_name (i := 4) sc_law_alone.nd rfl (Or.inl rfl)) (fun _ _ _ _ _ => jts_nil) (fun _ _ _ _ _ => (je_mul (je_var 4) (je_ix (je_var 3) je_int)))) (ja_cons (je_mul (je_ix (je_var 1) je_int) (je_ix (je_var 3) je_int)) ja_nil))))
      (jss_cons (js_set 7 sc_law_alone.nd (je_make T.mk_Ratio (ok_Ratio_init T S) (hr.mono (by decide)) T.mg_Ratio S.B_Ratio_init .nil (fun _ => .nil) (tkOf (takes_of rfl rfl rfl rfl)) (ja_cons (je_ix (je_var 3) je_int) (ja_cons (je_ix (je_var 3) je_int) ja_nil))))
      (jss_cons (js_if (jt_w (jw_or (jt_not (jt_val (je_call (ok_law_is T S) (hr.mono (by decide)) T.mg_law_is S.F_law_is.kp S.B_law_is .nil (fun _ => .nil) (tkOf (takes_of rfl rfl rfl rfl)) (ja_cons (je_binC T.op_Vector_mul T.op_Ratio_mul T.od_Vector_Ratio (ok_Vector_mul T S) (hr.mono (by decide)) S.B_Vector_mul (tkOf (takes_of rfl rfl rfl rfl)) (je_var 0) (je_var 7)) (ja_cons (je_var 6) ja_nil))))) (jw_or1 (jt_not (jt_val (je_call (ok_law_is T S) (hr.mono (by decide)) T.mg_law_is S.F_law_is.kp S.B_law_is .nil (fun _ => .nil) (tkOf (takes_of rfl rfl rfl rfl)) (ja_cons (je_rC T.op_Ratio_mul T.sf_Vector T.fi_Vector_mul T.fi_Vector_rmul T.isf_Vector_rmul T.od_Ratio_Vector (ni_Ratio_mul_Vector T S) (hr.mono (by decide)) S.B_Ratio_mul rfl (fun fs gs => ⟨fs, gs, rfl⟩) (ok_Vector_rmul T S) (hr.mono (by decide)) S.B_Vector_rmul (tkOf (takes_of rfl rfl rfl rfl)) (je_var 7) (je_var 0)) (ja_cons (je_var 6) ja_nil)))))))) (jss_one (js_ret je_bl)) jss_nil)
      (jss_cut (js_forL 8 (passes_of rfl) rfl sc_law_alone.nd (je_lst (ja_cons (je_list T.b_list (ja_cons (je_ix (je_var 1) je_int) ja_nil)) (ja_cons (je_tuple T.b_tuple (ja_cons (je_ix (je_var 1) je_int) ja_nil)) (ja_cons (je_var 7) (ja_cons je_int (ja_cons je_non ja_nil))))))
        (jss_one (js_if (jt_w (jw_or (jt_not (jt_val (je_call (ok_law_truth T S) (hr.mono (by decide)) T.mg_law_truth S.F_law_truth.kp S.B_law_truth .nil (fun _ => .nil) (tkOf (takes_of rfl rfl rfl rfl)) (ja_cons (je_eqO (nf_c (os := [a.C_Ratio, a.C_Poly]) T.is_Vector T.nf_Vector T.nfo_Vector) T.fi_Vector_eq T.isf_Vector_eq (ok_Vector_eq T S) (hr.mono (by decide)) S.B_Vector_eq (je_var 0) (je_var 8)) (ja_cons je_bl ja_nil))))) (jw_or1 (jt_not (jt_val (je_call (ok_law_truth T S) (hr.mono (by decide)) T.mg_law_truth S.F_law_truth.kp S.B_law_truth .nil (fun _ => .nil) (tkOf (takes_of rfl rfl rfl rfl)) (ja_cons (je_neO (nf_c (os := [a.C_Ratio, a.C_Poly]) T.is_Vector T.nf_Vector T.nfo_Vector) T.ne_Vector T.is_Vector.hm T.fi_Vector_eq T.isf_Vector_eq (ok_Vector_eq T S) (hr.mono (by decide)) S.B_Vector_eq (je_var 0) (je_var 8)) (ja_cons je_bl ja_nil)))))))) (jss_one (js_ret je_bl)) jss_nil)))
      (jss_cons (js_set 9 sc_law_alone.nd (je_make T.mk_Poly (ok_Poly_init T S) (hr.mono (by decide)) T.mg_Poly S.B_Poly_init .nil (fun _ => .nil) (tkOf (takes_of rfl rfl rfl rfl)) (ja_cons (je_sl (je_list T.b_list (ja_cons (je_ix (je_var 1) je_int) ja_nil)) jo_none (jo_some je_int)) (ja_cons (je_ix (je_var 1) je_int) ja_nil))))
      (jss_cons (js_if (jt_w (jw_or (jt_not (jt_val (je_call (ok_law_truth T S) (hr.mono (by decide)) T.mg_law_truth S.F_law_truth.kp S.B_law_truth .nil (fun _ => .nil) (tkOf (takes_of rfl rfl rfl rfl)) (ja_cons (je_eqO (nf_c (os := [a.C_Ratio, a.C_Poly]) T.is_Vector T.nf_Vector T.nfo_Vector) T.fi_Vector_eq T.isf_Vector_eq (ok_Vector_eq T S) (hr.mono (by decide)) S.B_Vector_eq (je_var 0) (je_var 9)) (ja_cons je_bl ja_nil))))) (jw_or (jt_not (jt_val (je_call (ok_law_truth T S) (hr.mono (by decide)) T.mg_law_truth S.F_law_truth.kp S.B_law_truth .nil (fun _ => .nil) (tkOf (takes_of rfl rfl rfl rfl)) (ja_cons (je_eqO (nf_c (os := [a.C_Ratio, a.C_Vector]) T.is_Poly T.nf_Poly T.nfo_Poly) T.fi_Poly_eq T.isf_Poly_eq (ok_Poly_eq T S) (hr.mono (by decide)) S.B_Poly_eq (je_var 9) (je_var 0)) (ja_cons je_bl ja_nil))))) (jw_or1 (jt_not (jt_val (je_call (ok_law_truth T S) (hr.mono (by decide)) T.mg_law_truth S.F_law_truth.kp S.B_law_truth .nil (fun _ => .nil) (tkOf (takes_of rfl rfl rfl rfl)) (ja_cons (je_neO (nf_c (os := [a.C_Ratio, a.C_Poly]) T.is_Vector T.nf_Vector T.nfo_Vector) T.ne_Vector T.is_Vector.hm T.fi_Vector_eq T.isf_Vector_eq (ok_Vector_eq T S) (hr.mono (by decide)) S.B_Vector_eq (je_var 0) (je_var 9)) (ja_cons je_bl ja_nil))))))))) (jss_one (js_ret je_bl)) jss_nil)
      (jss_cons (js_set 10 sc_law_alone.nd (je_make T.mk_Vector (ok_Vector_init T S) (hr.mono (by decide)) T.mg_Vector S.B_Vector_init .nil (fun _ => .nil) (tkOf (takes_of rfl rfl rfl rfl)) (ja_cons (je_lc (own := [("top", 4)]) (g := (gName 4)) (t := (tName 4)) rfl sc_law_alone.nd (ji_list (je_ix (je_var 1) je_int)) (blkOk_by (N := ["v", "low", "number", "pair", "top", "k", "due", "r", "other", "p", "twin"]) (sc := defScope s_law_alone) (by decide +kernel)) (tg_name 4) (fun _ _ _ _ _ => pg_name (i := 4) sc_law_alone.nd rfl (Or.inl rfl)) (fun _ _ _ _ _ => jts_nil) (fun _ _ _ _ _ => (je_mul (je_var 4) (je_neg je_int)))) (ja_cons (je_mul (je_ix (je_var 1) je_int) (je_neg je_int)) ja_nil))))
      (jss_one (js_ret (je_and (je_call (ok_law_truth T S) (hr.mono (by decide)) T.mg_law_truth S.F_law_truth.kp S.B_law_truth .nil (fun _ => .nil) (tkOf (takes_of rfl rfl rfl rfl)) (ja_cons (je_eqO (nf_c (os := [a.C_Ratio, a.C_Poly]) T.is_Vector T.nf_Vector T.nfo_Vector) T.fi_Vector_eq T.isf_Vector_eq (ok_Vector_eq T S) (hr.mono (by decide)) S.B_Vector_eq (je_var 0) (je_var 10)) (ja_cons je_bl ja_nil))) (je_and (je_call (ok_law_truth T S) (hr.mono (by decide)) T.mg_law_truth S.F_law_truth.kp S.B_law_truth .nil (fun _ => .nil) (tkOf (takes_of rfl rfl rfl rfl)) (ja_cons (je_eqO (nf_c (os := [a.C_Ratio, a.C_Poly]) T.is_Vector T.nf_Vector T.nfo_Vector) T.fi_Vector_eq T.isf_Vector_eq (ok_Vector_eq T S) (hr.mono (by decide)) S.B_Vector_eq (je_var 10) (je_var 0)) (ja_cons je_bl ja_nil))) (je_one (je_call (ok_law_truth T S) (hr.mono (by decide)) T.mg_law_truth S.F_law_truth.kp S.B_law_truth .nil (fun _ => .nil) (tkOf (takes_of rfl rfl rfl rfl)) (ja_cons (je_neO (nf_c (os := [a.C_Ratio, a.C_Poly]) T.is_Vector T.nf_Vector T.nfo_Vector) T.ne_Vector T.is_Vector.hm T.fi_Vector_eq T.isf_Vector_eq (ok_Vector_eq T S) (hr.mono (by decide)) S.B_Vector_eq (je_var 0) (je_var 10)) (ja_cons je_bl ja_nil))))))))))))))))))))) ?pure
  case pure =>
    rintro xs y Q ⟨ts, b, n, p, q, rfl, ⟨⟨low, g⟩, sn, sp, sq, hq⟩, h⟩
    have g2 := g.mono (show 200 ≤ 2000 by decide)
    obtain ⟨g11, g12, g13, g14, g15⟩ := g
    have hneg := low.neg
    have sb8 : Sz 8000 b := g12.mono (by decide)
    have st : ∀ t ∈ ts, Sz 8000 t := fun t ht => (g11 t ht).mono (by decide)
    refine guard (fun R hR => ?_) ?_
    · simp (maxSteps := 3000000) (disch := decide) only [↓psE, psO, forall_const, ↓iAdd, ↓iSub, ↓iMul, ↓iDiv, ↓iMod, ↓iPow, ↓iLt, ↓iLe, ↓iGt, ↓iGe, T.ne_Ratio_Vector, T.ne_Ratio_Poly, T.ne_Vector_Ratio, T.ne_Vector_Poly, T.ne_Poly_Ratio, T.ne_Poly_Vector, T.ne_Empty_ZeroBottom, T.ne_ZeroBottom_Empty, ↓reduceIte, Nat.reduceLeDiff, Nat.reduceLT, reduceCtorEq, isiInt, isiBool, isiStr, isiC, isiTup, isiLst, isiOr, nfC, inL, startP, startI, setAll, List.replicate, Nat.reduceSub, Nat.reduceAdd, List.length_map, Int.natCast_inj, Int.toNat_natCast, Int.zero_add, toD_lst, toD_tup, shaped_lst, shaped_tup, eqv_lst, eqv_tup, toD_nil, shaped_nil, eqv_nil, List.length_set, List.length_range, rangeP_len, ixN_0, ↓i_Vector_len, ↓i_Vector_is_zero, ↓i_law_truth]
      refine ⟨by omega, by omega, by omega, by omega, coll_filt (fun t => !decide (t = 0)) id ts [] (fun t ht R S h1 h2 => ?_) ?_⟩
      · simp (maxSteps := 3000000) (disch := decide) only [↓psE, psO, forall_const, ↓iAdd, ↓iSub, ↓iMul, ↓iDiv, ↓iMod, ↓iPow, ↓iLt, ↓iLe, ↓iGt, ↓iGe, T.ne_Ratio_Vector, T.ne_Ratio_Poly, T.ne_Vector_Ratio, T.ne_Vector_Poly, T.ne_Poly_Ratio, T.ne_Poly_Vector, T.ne_Empty_ZeroBottom, T.ne_ZeroBottom_Empty, ↓reduceIte, Nat.reduceLeDiff, Nat.reduceLT, reduceCtorEq, isiInt, isiBool, isiStr, isiC, isiTup, isiLst, isiOr, nfC, inL, startP, startI, setAll, List.replicate, Nat.reduceSub, Nat.reduceAdd, List.length_map, Int.natCast_inj, Int.toNat_natCast, Int.zero_add, toD_lst, toD_tup, shaped_lst, shaped_tup, eqv_lst, eqv_tup, toD_nil, shaped_nil, eqv_nil, List.length_set, List.length_range, rangeP_len, ixN_0]
        by_cases e : t = 0
        · rw [if_neg (not_not_intro e)]
          exact h2 (by simp [e])
        · rw [if_pos e]
          exact h1 (by simp [e])
      · simp (maxSteps := 3000000) (disch := decide) only [↓psE, psO, forall_const, ↓iAdd, ↓iSub, ↓iMul, ↓iDiv, ↓iMod, ↓iPow, ↓iLt, ↓iLe, ↓iGt, ↓iGe, T.ne_Ratio_Vector, T.ne_Ratio_Poly, T.ne_Vector_Ratio, T.ne_Vector_Poly, T.ne_Poly_Ratio, T.ne_Poly_Vector, T.ne_Empty_ZeroBottom, T.ne_ZeroBottom_Empty, ↓reduceIte, Nat.reduceLeDiff, Nat.reduceLT, reduceCtorEq, isiInt, isiBool, isiStr, isiC, isiTup, isiLst, isiOr, nfC, inL, startP, startI, setAll, List.replicate, Nat.reduceSub, Nat.reduceAdd, List.length_map, Int.natCast_inj, Int.toNat_natCast, Int.zero_add, toD_lst, toD_tup, shaped_lst, shaped_tup, eqv_lst, eqv_tup, toD_nil, shaped_nil, eqv_nil, List.length_set, List.length_range, rangeP_len, ixN_0]
        rw [if_neg (not_not_intro (filt_all ts))]
        exact hR
    refine cutS [5] (fun vs => ∃ v, vs = [v]) ?_ ?_
    · simp (maxSteps := 3000000) (disch := decide) only [↓psE, psO, forall_const, ↓iAdd, ↓iSub, ↓iMul, ↓iDiv, ↓iMod, ↓iPow, ↓iLt, ↓iLe, ↓iGt, ↓iGe, T.ne_Ratio_Vector, T.ne_Ratio_Poly, T.ne_Vector_Ratio, T.ne_Vector_Poly, T.ne_Poly_Ratio, T.ne_Poly_Vector, T.ne_Empty_ZeroBottom, T.ne_ZeroBottom_Empty, ↓reduceIte, Nat.reduceLeDiff, Nat.reduceLT, reduceCtorEq, isiInt, isiBool, isiStr, isiC, isiTup, isiLst, isiOr, nfC, inL, startP, startI, setAll, List.replicate, Nat.reduceSub, Nat.reduceAdd, List.length_map, Int.natCast_inj, Int.toNat_natCast, Int.zero_add, toD_lst, toD_tup, shaped_lst, shaped_tup, eqv_lst, eqv_tup, toD_nil, shaped_nil, eqv_nil, List.length_set, List.length_range, rangeP_len, ixN_0]
      refine ⟨by omega, by omega, ?_⟩
      refine loopS [5] (fun k vs => ∃ v, vs = [v]) [none] rfl ⟨_, rfl⟩ ?_ (fun vs h => ⟨vs, h, rfl⟩)
      rintro k x vs N hx hN ⟨v, rfl⟩
      obtain ⟨hk, rfl⟩ := rangeP_at hx
      have hat : atI ts (k : Int) = some ts[k] := by rw [atI_nth, List.getElem?_eq_getElem hk]
      simp (maxSteps := 3000000) (disch := decide) only [↓psE, psO, forall_const, ↓iAdd, ↓iSub, ↓iMul, ↓iDiv, ↓iMod, ↓iPow, ↓iLt, ↓iLe, ↓iGt, ↓iGe, T.ne_Ratio_Vector, T.ne_Ratio_Poly, T.ne_Vector_Ratio, T.ne_Vector_Poly, T.ne_Poly_Ratio, T.ne_Poly_Vector, T.ne_Empty_ZeroBottom, T.ne_ZeroBottom_Empty, ↓reduceIte, Nat.reduceLeDiff, Nat.reduceLT, reduceCtorEq, isiInt, isiBool, isiStr, isiC, isiTup, isiLst, isiOr, nfC, inL, startP, startI, setAll, List.replicate, Nat.reduceSub, Nat.reduceAdd, List.length_map, Int.natCast_inj, Int.toNat_natCast, Int.zero_add, toD_lst, toD_tup, shaped_lst, shaped_tup, eqv_lst, eqv_tup, toD_nil, shaped_nil, eqv_nil, List.length_set, List.length_range, rangeP_len, ixN_0, ↓i_law_is_ratio, ↓i_Vector_getitem, atI_get (List.getElem?_eq_getElem hk), hat, ↓i_law_ratio, g13, sb8]
      exact hN [_] ⟨_, rfl⟩
    rintro vs ⟨v, rfl⟩
    have hc : ∀ (f : Int → Int), (ts.map f).length ≤ 1000 := fun f => by rw [List.length_map]; omega
    refine guard (fun R hR => ?_) ?_
    · simp (maxSteps := 3000000) (disch := decide) only [↓psE, psO, forall_const, ↓iAdd, ↓iSub, ↓iMul, ↓iDiv, ↓iMod, ↓iPow, ↓iLt, ↓iLe, ↓iGt, ↓iGe, T.ne_Ratio_Vector, T.ne_Ratio_Poly, T.ne_Vector_Ratio, T.ne_Vector_Poly, T.ne_Poly_Ratio, T.ne_Poly_Vector, T.ne_Empty_ZeroBottom, T.ne_ZeroBottom_Empty, ↓reduceIte, Nat.reduceLeDiff, Nat.reduceLT, reduceCtorEq, isiInt, isiBool, isiStr, isiC, isiTup, isiLst, isiOr, nfC, inL, startP, startI, setAll, List.replicate, Nat.reduceSub, Nat.reduceAdd, List.length_map, Int.natCast_inj, Int.toNat_natCast, Int.zero_add, toD_lst, toD_tup, shaped_lst, shaped_tup, eqv_lst, eqv_tup, toD_nil, shaped_nil, eqv_nil, List.length_set, List.length_range, rangeP_len, ixN_0, ↓i_Vector_neg, ↓i_law_is]
      refine ⟨g2, by omega, coll_ints (fun t => -t) ts (fun t ht R r => ?_) ?_⟩
      · simp (maxSteps := 3000000) (disch := decide) only [↓psE, psO, forall_const, ↓iAdd, ↓iSub, ↓iMul, ↓iDiv, ↓iMod, ↓iPow, ↓iLt, ↓iLe, ↓iGt, ↓iGe, T.ne_Ratio_Vector, T.ne_Ratio_Poly, T.ne_Vector_Ratio, T.ne_Vector_Poly, T.ne_Poly_Ratio, T.ne_Poly_Vector, T.ne_Empty_ZeroBottom, T.ne_ZeroBottom_Empty, ↓reduceIte, Nat.reduceLeDiff, Nat.reduceLT, reduceCtorEq, isiInt, isiBool, isiStr, isiC, isiTup, isiLst, isiOr, nfC, inL, startP, startI, setAll, List.replicate, Nat.reduceSub, Nat.reduceAdd, List.length_map, Int.natCast_inj, Int.toNat_natCast, Int.zero_add, toD_lst, toD_tup, shaped_lst, shaped_tup, eqv_lst, eqv_tup, toD_nil, shaped_nil, eqv_nil, List.length_set, List.length_range, rangeP_len, ixN_0]
        exact r
      · simp (maxSteps := 3000000) (disch := decide) only [↓psE, psO, forall_const, ↓iAdd, ↓iSub, ↓iMul, ↓iDiv, ↓iMod, ↓iPow, ↓iLt, ↓iLe, ↓iGt, ↓iGe, T.ne_Ratio_Vector, T.ne_Ratio_Poly, T.ne_Vector_Ratio, T.ne_Vector_Poly, T.ne_Poly_Ratio, T.ne_Poly_Vector, T.ne_Empty_ZeroBottom, T.ne_ZeroBottom_Empty, ↓reduceIte, Nat.reduceLeDiff, Nat.reduceLT, reduceCtorEq, isiInt, isiBool, isiStr, isiC, isiTup, isiLst, isiOr, nfC, inL, startP, startI, setAll, List.replicate, Nat.reduceSub, Nat.reduceAdd, List.length_map, Int.natCast_inj, Int.toNat_natCast, Int.zero_add, toD_lst, toD_tup, shaped_lst, shaped_tup, eqv_lst, eqv_tup, toD_nil, shaped_nil, eqv_nil, List.length_set, List.length_range, rangeP_len, ixN_0, ↓i_law_is, hneg.2.1, hneg.2.2]
        exact ⟨by omega, hR⟩
    simp (maxSteps := 3000000) (disch := decide) only [↓psE, psO, forall_const, ↓iAdd, ↓iSub, ↓iMul, ↓iDiv, ↓iMod, ↓iPow, ↓iLt, ↓iLe, ↓iGt, ↓iGe, T.ne_Ratio_Vector, T.ne_Ratio_Poly, T.ne_Vector_Ratio, T.ne_Vector_Poly, T.ne_Poly_Ratio, T.ne_Poly_Vector, T.ne_Empty_ZeroBottom, T.ne_ZeroBottom_Empty, ↓reduceIte, Nat.reduceLeDiff, Nat.reduceLT, reduceCtorEq, isiInt, isiBool, isiStr, isiC, isiTup, isiLst, isiOr, nfC, inL, startP, startI, setAll, List.replicate, Nat.reduceSub, Nat.reduceAdd, List.length_map, Int.natCast_inj, Int.toNat_natCast, Int.zero_add, toD_lst, toD_tup, shaped_lst, shaped_tup, eqv_lst, eqv_tup, toD_nil, shaped_nil, eqv_nil, List.length_set, List.length_range, rangeP_len, ixN_0]
    refine ⟨by omega, coll_ints (fun t => t * n) ts (fun t ht R r => ?_) ?_⟩
    · simp (maxSteps := 3000000) (disch := decide) only [↓psE, psO, forall_const, ↓iAdd, ↓iSub, ↓iMul, ↓iDiv, ↓iMod, ↓iPow, ↓iLt, ↓iLe, ↓iGt, ↓iGe, T.ne_Ratio_Vector, T.ne_Ratio_Poly, T.ne_Vector_Ratio, T.ne_Vector_Poly, T.ne_Poly_Ratio, T.ne_Poly_Vector, T.ne_Empty_ZeroBottom, T.ne_ZeroBottom_Empty, ↓reduceIte, Nat.reduceLeDiff, Nat.reduceLT, reduceCtorEq, isiInt, isiBool, isiStr, isiC, isiTup, isiLst, isiOr, nfC, inL, startP, startI, setAll, List.replicate, Nat.reduceSub, Nat.reduceAdd, List.length_map, Int.natCast_inj, Int.toNat_natCast, Int.zero_add, toD_lst, toD_tup, shaped_lst, shaped_tup, eqv_lst, eqv_tup, toD_nil, shaped_nil, eqv_nil, List.length_set, List.length_range, rangeP_len, ixN_0]
      exact ⟨mulW (g11 t ht) sn (by decide), r⟩
    simp (maxSteps := 3000000) (disch := decide) only [↓psE, psO, forall_const, ↓iAdd, ↓iSub, ↓iMul, ↓iDiv, ↓iMod, ↓iPow, ↓iLt, ↓iLe, ↓iGt, ↓iGe, T.ne_Ratio_Vector, T.ne_Ratio_Poly, T.ne_Vector_Ratio, T.ne_Vector_Poly, T.ne_Poly_Ratio, T.ne_Poly_Vector, T.ne_Empty_ZeroBottom, T.ne_ZeroBottom_Empty, ↓reduceIte, Nat.reduceLeDiff, Nat.reduceLT, reduceCtorEq, isiInt, isiBool, isiStr, isiC, isiTup, isiLst, isiOr, nfC, inL, startP, startI, setAll, List.replicate, Nat.reduceSub, Nat.reduceAdd, List.length_map, Int.natCast_inj, Int.toNat_natCast, Int.zero_add, toD_lst, toD_tup, shaped_lst, shaped_tup, eqv_lst, eqv_tup, toD_nil, shaped_nil, eqv_nil, List.length_set, List.length_range, rangeP_len, ixN_0, ↓i_law_low]
    refine ⟨⟨g13, sb8, ?_, by omega⟩, ?_⟩
    · intro t ht
      obtain ⟨u, hu, rfl⟩ := List.mem_map.mp ht
      exact ((g11 u hu).mul sn).mono (by decide)
    have hl : ∀ us c, (normT us c).length = us.length := normT_len
    simp (maxSteps := 3000000) (disch := decide) only [↓psE, psO, forall_const, ↓iAdd, ↓iSub, ↓iMul, ↓iDiv, ↓iMod, ↓iPow, ↓iLt, ↓iLe, ↓iGt, ↓iGe, T.ne_Ratio_Vector, T.ne_Ratio_Poly, T.ne_Vector_Ratio, T.ne_Vector_Poly, T.ne_Poly_Ratio, T.ne_Poly_Vector, T.ne_Empty_ZeroBottom, T.ne_ZeroBottom_Empty, ↓reduceIte, Nat.reduceLeDiff, Nat.reduceLT, reduceCtorEq, isiInt, isiBool, isiStr, isiC, isiTup, isiLst, isiOr, nfC, inL, startP, startI, setAll, List.replicate, Nat.reduceSub, Nat.reduceAdd, List.length_map, Int.natCast_inj, Int.toNat_natCast, Int.zero_add, toD_lst, toD_tup, shaped_lst, shaped_tup, eqv_lst, eqv_tup, toD_nil, shaped_nil, eqv_nil, List.length_set, List.length_range, rangeP_len, ixN_0, ↓i_mulI, ↓i_rmulI, ↓i_law_is, normT_len]
    refine ⟨g2, sn.mono (by decide), by omega, g2, sn.mono (by decide), by omega, by omega, coll_ints (fun t => t * p) ts (fun t ht R r => ?_) ?_⟩
    · simp (maxSteps := 3000000) (disch := decide) only [↓psE, psO, forall_const, ↓iAdd, ↓iSub, ↓iMul, ↓iDiv, ↓iMod, ↓iPow, ↓iLt, ↓iLe, ↓iGt, ↓iGe, T.ne_Ratio_Vector, T.ne_Ratio_Poly, T.ne_Vector_Ratio, T.ne_Vector_Poly, T.ne_Poly_Ratio, T.ne_Poly_Vector, T.ne_Empty_ZeroBottom, T.ne_ZeroBottom_Empty, ↓reduceIte, Nat.reduceLeDiff, Nat.reduceLT, reduceCtorEq, isiInt, isiBool, isiStr, isiC, isiTup, isiLst, isiOr, nfC, inL, startP, startI, setAll, List.replicate, Nat.reduceSub, Nat.reduceAdd, List.length_map, Int.natCast_inj, Int.toNat_natCast, Int.zero_add, toD_lst, toD_tup, shaped_lst, shaped_tup, eqv_lst, eqv_tup, toD_nil, shaped_nil, eqv_nil, List.length_set, List.length_range, rangeP_len, ixN_0]
      exact ⟨mulW (g11 t ht) sp (by decide), r⟩
    simp (maxSteps := 3000000) (disch := decide) only [↓psE, psO, forall_const, ↓iAdd, ↓iSub, ↓iMul, ↓iDiv, ↓iMod, ↓iPow, ↓iLt, ↓iLe, ↓iGt, ↓iGe, T.ne_Ratio_Vector, T.ne_Ratio_Poly, T.ne_Vector_Ratio, T.ne_Vector_Poly, T.ne_Poly_Ratio, T.ne_Poly_Vector, T.ne_Empty_ZeroBottom, T.ne_ZeroBottom_Empty, ↓reduceIte, Nat.reduceLeDiff, Nat.reduceLT, reduceCtorEq, isiInt, isiBool, isiStr, isiC, isiTup, isiLst, isiOr, nfC, inL, startP, startI, setAll, List.replicate, Nat.reduceSub, Nat.reduceAdd, List.length_map, Int.natCast_inj, Int.toNat_natCast, Int.zero_add, toD_lst, toD_tup, shaped_lst, shaped_tup, eqv_lst, eqv_tup, toD_nil, shaped_nil, eqv_nil, List.length_set, List.length_range, rangeP_len, ixN_0, ↓i_law_low]
    refine ⟨mulW g12 sq (by decide), ⟨Int.mul_ne_zero g13 hq, (g12.mul sq).mono (by decide), ?_, by omega⟩, ?_⟩
    · intro t ht
      obtain ⟨u, hu, rfl⟩ := List.mem_map.mp ht
      exact ((g11 u hu).mul sp).mono (by decide)
    simp (maxSteps := 3000000) (disch := decide) only [↓psE, psO, forall_const, ↓iAdd, ↓iSub, ↓iMul, ↓iDiv, ↓iMod, ↓iPow, ↓iLt, ↓iLe, ↓iGt, ↓iGe, T.ne_Ratio_Vector, T.ne_Ratio_Poly, T.ne_Vector_Ratio, T.ne_Vector_Poly, T.ne_Poly_Ratio, T.ne_Poly_Vector, T.ne_Empty_ZeroBottom, T.ne_ZeroBottom_Empty, ↓reduceIte, Nat.reduceLeDiff, Nat.reduceLT, reduceCtorEq, isiInt, isiBool, isiStr, isiC, isiTup, isiLst, isiOr, nfC, inL, startP, startI, setAll, List.replicate, Nat.reduceSub, Nat.reduceAdd, List.length_map, Int.natCast_inj, Int.toNat_natCast, Int.zero_add, toD_lst, toD_tup, shaped_lst, shaped_tup, eqv_lst, eqv_tup, toD_nil, shaped_nil, eqv_nil, List.length_set, List.length_range, rangeP_len, ixN_0, ↓i_Ratio_init]
    refine ⟨fun z => absurd z hq, fun _ => ⟨sq.mono (by decide), ?_⟩⟩
    have sr : Sz 2000 (nT p q) ∧ Sz 2000 (nB p q) ∧ nB p q ≠ 0 := ⟨(nT_sz sp hq).mono (by decide), (nB_sz sq hq).mono (by decide), Int.ne_of_gt (nB_pos hq)⟩
    simp (maxSteps := 3000000) (disch := decide) only [↓psE, psO, forall_const, ↓iAdd, ↓iSub, ↓iMul, ↓iDiv, ↓iMod, ↓iPow, ↓iLt, ↓iLe, ↓iGt, ↓iGe, T.ne_Ratio_Vector, T.ne_Ratio_Poly, T.ne_Vector_Ratio, T.ne_Vector_Poly, T.ne_Poly_Ratio, T.ne_Poly_Vector, T.ne_Empty_ZeroBottom, T.ne_ZeroBottom_Empty, ↓reduceIte, Nat.reduceLeDiff, Nat.reduceLT, reduceCtorEq, isiInt, isiBool, isiStr, isiC, isiTup, isiLst, isiOr, nfC, inL, startP, startI, setAll, List.replicate, Nat.reduceSub, Nat.reduceAdd, List.length_map, Int.natCast_inj, Int.toNat_natCast, Int.zero_add, toD_lst, toD_tup, shaped_lst, shaped_tup, eqv_lst, eqv_tup, toD_nil, shaped_nil, eqv_nil, List.length_set, List.length_range, rangeP_len, ixN_0, ↓i_mulR, ↓i_rmulR, ↓i_law_is, normT_len, (norm_rat ts g13 hq).1, (norm_rat ts g13 hq).2]
    refine ⟨g2, sr, by omega, g2, sr, by omega, ?_⟩
    refine cutS [8] (fun vs => ∃ v, vs = [v]) ?_ ?_
    · have hr : ∀ t c y R, P_Vector_eq a [vec a.C_Vector ts b, rat a.C_Ratio t c] y R = R (.bl false) := fun t c y R => i_veqF a y ts b _ (by simp (maxSteps := 3000000) (disch := decide) only [↓psE, psO, forall_const, ↓iAdd, ↓iSub, ↓iMul, ↓iDiv, ↓iMod, ↓iPow, ↓iLt, ↓iLe, ↓iGt, ↓iGe, T.ne_Ratio_Vector, T.ne_Ratio_Poly, T.ne_Vector_Ratio, T.ne_Vector_Poly, T.ne_Poly_Ratio, T.ne_Poly_Vector, T.ne_Empty_ZeroBottom, T.ne_ZeroBottom_Empty, ↓reduceIte, Nat.reduceLeDiff, Nat.reduceLT, reduceCtorEq, isiInt, isiBool, isiStr, isiC, isiTup, isiLst, isiOr, nfC, inL, startP, startI, setAll, List.replicate, Nat.reduceSub, Nat.reduceAdd, rat]) R
      simp (maxSteps := 3000000) (disch := decide) only [↓psE, psO, forall_const, ↓iAdd, ↓iSub, ↓iMul, ↓iDiv, ↓iMod, ↓iPow, ↓iLt, ↓iLe, ↓iGt, ↓iGe, T.ne_Ratio_Vector, T.ne_Ratio_Poly, T.ne_Vector_Ratio, T.ne_Vector_Poly, T.ne_Poly_Ratio, T.ne_Poly_Vector, T.ne_Empty_ZeroBottom, T.ne_ZeroBottom_Empty, ↓reduceIte, Nat.reduceLeDiff, Nat.reduceLT, reduceCtorEq, isiInt, isiBool, isiStr, isiC, isiTup, isiLst, isiOr, nfC, inL, startP, startI, setAll, List.replicate, Nat.reduceSub, Nat.reduceAdd, List.length_map, Int.natCast_inj, Int.toNat_natCast, Int.zero_add, toD_lst, toD_tup, shaped_lst, shaped_tup, eqv_lst, eqv_tup, toD_nil, shaped_nil, eqv_nil, List.length_set, List.length_range, rangeP_len, ixN_0, ↓qLoop_cons, ↓qLoop_nil, ↓i_veq_lst, ↓i_veq_tup, ↓i_veq_int, ↓i_veq_non, ↓hr, ↓i_law_truth]
      exact ⟨[_], ⟨_, rfl⟩, rfl⟩
    rintro vs ⟨v, rfl⟩
    simp (maxSteps := 3000000) (disch := decide) only [↓psE, psO, forall_const, ↓iAdd, ↓iSub, ↓iMul, ↓iDiv, ↓iMod, ↓iPow, ↓iLt, ↓iLe, ↓iGt, ↓iGe, T.ne_Ratio_Vector, T.ne_Ratio_Poly, T.ne_Vector_Ratio, T.ne_Vector_Poly, T.ne_Poly_Ratio, T.ne_Poly_Vector, T.ne_Empty_ZeroBottom, T.ne_ZeroBottom_Empty, ↓reduceIte, Nat.reduceLeDiff, Nat.reduceLT, reduceCtorEq, isiInt, isiBool, isiStr, isiC, isiTup, isiLst, isiOr, nfC, inL, startP, startI, setAll, List.replicate, Nat.reduceSub, Nat.reduceAdd, List.length_map, Int.natCast_inj, Int.toNat_natCast, Int.zero_add, toD_lst, toD_tup, shaped_lst, shaped_tup, eqv_lst, eqv_tup, toD_nil, shaped_nil, eqv_nil, List.length_set, List.length_range, rangeP_len, ixN_0]
    obtain ⟨us, hu, hus⟩ := cut_ints ts none (some 21)
    have hul : us.length ≤ 1000 := by rw [hus, List.length_take, List.length_drop]; omega
    rw [hu]
    simp (maxSteps := 3000000) (disch := decide) only [↓psE, psO, forall_const, ↓iAdd, ↓iSub, ↓iMul, ↓iDiv, ↓iMod, ↓iPow, ↓iLt, ↓iLe, ↓iGt, ↓iGe, T.ne_Ratio_Vector, T.ne_Ratio_Poly, T.ne_Vector_Ratio, T.ne_Vector_Poly, T.ne_Poly_Ratio, T.ne_Poly_Vector, T.ne_Empty_ZeroBottom, T.ne_ZeroBottom_Empty, ↓reduceIte, Nat.reduceLeDiff, Nat.reduceLT, reduceCtorEq, isiInt, isiBool, isiStr, isiC, isiTup, isiLst, isiOr, nfC, inL, startP, startI, setAll, List.replicate, Nat.reduceSub, Nat.reduceAdd, List.length_map, Int.natCast_inj, Int.toNat_natCast, Int.zero_add, toD_lst, toD_tup, shaped_lst, shaped_tup, eqv_lst, eqv_tup, toD_nil, shaped_nil, eqv_nil, List.length_set, List.length_range, rangeP_len, ixN_0, ↓i_Poly_init]
    refine ⟨fun z => absurd z g13, fun _ => ⟨⟨sb8, hul⟩, ?_⟩⟩
    have hp : ∀ fs y R, P_Vector_eq a [vec a.C_Vector ts b, .obj a.C_Poly fs] y R = R (.bl false) := fun fs y R => i_veqF a y ts b _ (by simp (maxSteps := 3000000) (disch := decide) only [↓psE, psO, forall_const, ↓iAdd, ↓iSub, ↓iMul, ↓iDiv, ↓iMod, ↓iPow, ↓iLt, ↓iLe, ↓iGt, ↓iGe, T.ne_Ratio_Vector, T.ne_Ratio_Poly, T.ne_Vector_Ratio, T.ne_Vector_Poly, T.ne_Poly_Ratio, T.ne_Poly_Vector, T.ne_Empty_ZeroBottom, T.ne_ZeroBottom_Empty, ↓reduceIte, Nat.reduceLeDiff, Nat.reduceLT, reduceCtorEq, isiInt, isiBool, isiStr, isiC, isiTup, isiLst, isiOr, nfC, inL, startP, startI, setAll, List.replicate, Nat.reduceSub, Nat.reduceAdd]) R
    have hpv : ∀ fs y R, P_Poly_eq a [.obj a.C_Poly fs, vec a.C_Vector ts b] y R = R (.bl false) := fun fs y R => by rw [i_Poly_eq]; simp (maxSteps := 3000000) (disch := decide) only [↓psE, psO, forall_const, ↓iAdd, ↓iSub, ↓iMul, ↓iDiv, ↓iMod, ↓iPow, ↓iLt, ↓iLe, ↓iGt, ↓iGe, T.ne_Ratio_Vector, T.ne_Ratio_Poly, T.ne_Vector_Ratio, T.ne_Vector_Poly, T.ne_Poly_Ratio, T.ne_Poly_Vector, T.ne_Empty_ZeroBottom, T.ne_ZeroBottom_Empty, ↓reduceIte, Nat.reduceLeDiff, Nat.reduceLT, reduceCtorEq, isiInt, isiBool, isiStr, isiC, isiTup, isiLst, isiOr, nfC, inL, startP, startI, setAll, List.replicate, Nat.reduceSub, Nat.reduceAdd]
    simp (maxSteps := 3000000) (disch := decide) only [↓psE, psO, forall_const, ↓iAdd, ↓iSub, ↓iMul, ↓iDiv, ↓iMod, ↓iPow, ↓iLt, ↓iLe, ↓iGt, ↓iGe, T.ne_Ratio_Vector, T.ne_Ratio_Poly, T.ne_Vector_Ratio, T.ne_Vector_Poly, T.ne_Poly_Ratio, T.ne_Poly_Vector, T.ne_Empty_ZeroBottom, T.ne_ZeroBottom_Empty, ↓reduceIte, Nat.reduceLeDiff, Nat.reduceLT, reduceCtorEq, isiInt, isiBool, isiStr, isiC, isiTup, isiLst, isiOr, nfC, inL, startP, startI, setAll, List.replicate, Nat.reduceSub, Nat.reduceAdd, List.length_map, Int.natCast_inj, Int.toNat_natCast, Int.zero_add, toD_lst, toD_tup, shaped_lst, shaped_tup, eqv_lst, eqv_tup, toD_nil, shaped_nil, eqv_nil, List.length_set, List.length_range, rangeP_len, ixN_0, ↓hp, ↓hpv, ↓i_law_truth]
    refine ⟨by omega, coll_ints (fun t => t * -7) ts (fun t ht R r => ?_) ?_⟩
    · simp (maxSteps := 3000000) (disch := decide) only [↓psE, psO, forall_const, ↓iAdd, ↓iSub, ↓iMul, ↓iDiv, ↓iMod, ↓iPow, ↓iLt, ↓iLe, ↓iGt, ↓iGe, T.ne_Ratio_Vector, T.ne_Ratio_Poly, T.ne_Vector_Ratio, T.ne_Vector_Poly, T.ne_Poly_Ratio, T.ne_Poly_Vector, T.ne_Empty_ZeroBottom, T.ne_ZeroBottom_Empty, ↓reduceIte, Nat.reduceLeDiff, Nat.reduceLT, reduceCtorEq, isiInt, isiBool, isiStr, isiC, isiTup, isiLst, isiOr, nfC, inL, startP, startI, setAll, List.replicate, Nat.reduceSub, Nat.reduceAdd, List.length_map, Int.natCast_inj, Int.toNat_natCast, Int.zero_add, toD_lst, toD_tup, shaped_lst, shaped_tup, eqv_lst, eqv_tup, toD_nil, shaped_nil, eqv_nil, List.length_set, List.length_range, rangeP_len, ixN_0]
      exact ⟨mulR (by decide), r⟩
    have hs := norm_scale ts g13 (show (-7 : Int) ≠ 0 by decide)
    have s7 : Sz 3 (-7) := by unfold Sz; decide
    simp (maxSteps := 3000000) (disch := decide) only [↓psE, psO, forall_const, ↓iAdd, ↓iSub, ↓iMul, ↓iDiv, ↓iMod, ↓iPow, ↓iLt, ↓iLe, ↓iGt, ↓iGe, T.ne_Ratio_Vector, T.ne_Ratio_Poly, T.ne_Vector_Ratio, T.ne_Vector_Poly, T.ne_Poly_Ratio, T.ne_Poly_Vector, T.ne_Empty_ZeroBottom, T.ne_ZeroBottom_Empty, ↓reduceIte, Nat.reduceLeDiff, Nat.reduceLT, reduceCtorEq, isiInt, isiBool, isiStr, isiC, isiTup, isiLst, isiOr, nfC, inL, startP, startI, setAll, List.replicate, Nat.reduceSub, Nat.reduceAdd, List.length_map, Int.natCast_inj, Int.toNat_natCast, Int.zero_add, toD_lst, toD_tup, shaped_lst, shaped_tup, eqv_lst, eqv_tup, toD_nil, shaped_nil, eqv_nil, List.length_set, List.length_range, rangeP_len, ixN_0, ↓i_initL, hs.1, hs.2, low.2.1, low.2.2, ↓i_veq, ↓i_law_truth, List.map_eq_nil_iff]
    exact ⟨mulR (by decide), fun z => absurd z g14, fun _ z => absurd z (Int.mul_ne_zero g13 (by decide)), fun _ _ => ⟨⟨by omega, (g12.mul s7).mono (by decide)⟩, ⟨by omega, by omega⟩, ⟨by omega, by omega⟩, ⟨by omega, by omega⟩, h⟩⟩

theorem ok_law_asked (T : Txt K mg a) (S : Fs K a d) : FnOk P w K mg base (L2.CX P w) 6 a.f_law_asked d.d_law_asked ["v", "w", "road"] (spP K (P_law_asked a)) := by
  refine fa_q (k := 5) S.F_law_asked sc_law_asked (len_law_asked a) (fun cdv A outer s H E hr =>
    (jss_cons (js_set 3 sc_law_asked.nd je_non)
      (jss_cons (js_set 4 sc_law_asked.nd (je_lst ja_nil))
      (jss_cut (js_try 5 (r := fun C => if C = a.C_SizeMismatch then some true else none) sc_law_asked.nd ⟨rfl, by decide, .inl T.mg_SizeMismatch⟩ (fun C b h => by obtain ⟨rfl, rfl⟩ := one_c h; exact T.xe_SizeMismatch) (takes_of rfl rfl rfl rfl) (fun W1 pn xe tk1 hp1 => (jss_cut (js_if (jt_eq (je_var 2) je_int) (jss_one (js_set 3 sc_law_asked.nd (je_bin T.sf_Vector T.fi_Vector_add T.isf_Vector_add (ok_Vector_add T S) (hr.mono (by decide)) S.B_Vector_add (tkOf tk1) (je_var 0) (je_var 1)))) jss_nil)
      (jss_cut (js_if (jt_eq (je_var 2) je_int) (jss_one (js_set 3 sc_law_asked.nd (je_bin T.sf_Vector T.fi_Vector_sub T.isf_Vector_sub (ok_Vector_sub T S) (hr.mono (by decide)) S.B_Vector_sub (tkOf tk1) (je_var 0) (je_var 1)))) jss_nil)
      (jss_one (js_if (jt_eq (je_var 2) je_int) (jss_one (js_set 3 sc_law_asked.nd (je_meth (je_var 0) T.cl_Vector T.me_Vector_dot (ok_Vector_dot T S) (hr.mono (by decide)) S.B_Vector_dot .nil (fun _ => .nil) (tkOf tk1) (ja_cons (je_var 1) ja_nil)))) jss_nil)))))
        (fun xa oe cls xd pn hz hf => (jss_one (js_set 4 sc_law_asked.nd (je_lst (ja_cons (je_xf 5 (ok := fun C => decide (C = a.C_SizeMismatch)) (fun C h => by have h := of_decide_eq_true h; subst h; exact ⟨T.xf_SizeMismatch, T.na_SizeMismatch_left⟩) hz hf) (ja_cons (je_xf 5 (ok := fun C => decide (C = a.C_SizeMismatch)) (fun C h => by have h := of_decide_eq_true h; subst h; exact ⟨T.xf_SizeMismatch, T.na_SizeMismatch_right⟩) hz hf) (ja_cons (je_xf 5 (ok := fun C => decide (C = a.C_SizeMismatch)) (fun C h => by have h := of_decide_eq_true h; subst h; exact ⟨T.xf_SizeMismatch, T.na_SizeMismatch_word⟩) hz hf) (ja_cons (je_xiC 5 (r := fun C => if C = a.C_SizeMismatch then some true else none) (fun C b h => by obtain ⟨rfl, rfl⟩ := one_c h; exact ⟨T.xc_SizeMismatch, T.xk_SizeMismatch_LastrowsError⟩) T.b_isinstance hz hf T.mg_LastrowsError) (ja_cons (je_xiT 5 (r := fun C => if C = a.C_SizeMismatch then some true else none) (fun C b h => by obtain ⟨rfl, rfl⟩ := one_c h; exact ⟨T.xc_SizeMismatch, T.xk_SizeMismatch_ValueError⟩) T.b_isinstance hz hf T.b_ValueError) (ja_cons (je_xiC 5 (r := fun C => if C = a.C_SizeMismatch then some false else none) (fun C b h => by obtain ⟨rfl, rfl⟩ := one_c h; exact ⟨T.xc_SizeMismatch, T.xk_SizeMismatch_Empty⟩) T.b_isinstance hz hf T.mg_Empty) ja_nil)))))))))))
      (jss_one (js_ret (je_tup (ja_cons (je_var 3) (ja_cons (je_var 4) ja_nil))))))))) ?pure
  case pure =>
    rintro xs y Q ⟨ts, b, us, c, r, rfl, ⟨⟨l1, g1⟩, ⟨l2, g2⟩, r0, r2⟩, h1, h2⟩
    have k1 := g1.mono (show 200 ≤ 2000 by decide)
    have k2 := g2.mono (show 200 ≤ 2000 by decide)
    simp (maxSteps := 3000000) (disch := decide) only [↓psE, psO, forall_const, ↓iAdd, ↓iSub, ↓iMul, ↓iDiv, ↓iMod, ↓iPow, ↓iLt, ↓iLe, ↓iGt, ↓iGe, T.ne_Ratio_Vector, T.ne_Ratio_Poly, T.ne_Vector_Ratio, T.ne_Vector_Poly, T.ne_Poly_Ratio, T.ne_Poly_Vector, T.ne_Empty_ZeroBottom, T.ne_ZeroBottom_Empty, ↓reduceIte, Nat.reduceLeDiff, Nat.reduceLT, reduceCtorEq, isiInt, isiBool, isiStr, isiC, isiTup, isiLst, isiOr, nfC, inL, startP, startI, setAll, List.replicate, Nat.reduceSub, Nat.reduceAdd, List.length_map, Int.natCast_inj, Int.toNat_natCast, Int.zero_add, toD_lst, toD_tup, shaped_lst, shaped_tup, eqv_lst, eqv_tup, toD_nil, shaped_nil, eqv_nil, List.length_set, List.length_range, rangeP_len, ixN_0]
    refine cutS [3, 4, 5] (fun vs => ∃ (x z : PV), vs = [some (.pv x), some (.pv z), none] ∧ Q (.tup [x, z])) ?_ ?_
    · rcases (show r = 0 ∨ r = 1 ∨ r = 2 by omega) with rfl | rfl | rfl
      · simp (maxSteps := 3000000) (disch := decide) only [↓psE, psO, forall_const, ↓iAdd, ↓iSub, ↓iMul, ↓iDiv, ↓iMod, ↓iPow, ↓iLt, ↓iLe, ↓iGt, ↓iGe, T.ne_Ratio_Vector, T.ne_Ratio_Poly, T.ne_Vector_Ratio, T.ne_Vector_Poly, T.ne_Poly_Ratio, T.ne_Poly_Vector, T.ne_Empty_ZeroBottom, T.ne_ZeroBottom_Empty, ↓reduceIte, Nat.reduceLeDiff, Nat.reduceLT, reduceCtorEq, isiInt, isiBool, isiStr, isiC, isiTup, isiLst, isiOr, nfC, inL, startP, startI, setAll, List.replicate, Nat.reduceSub, Nat.reduceAdd, List.length_map, Int.natCast_inj, Int.toNat_natCast, Int.zero_add, toD_lst, toD_tup, shaped_lst, shaped_tup, eqv_lst, eqv_tup, toD_nil, shaped_nil, eqv_nil, List.length_set, List.length_range, rangeP_len, ixN_0]
        refine cutS [3] (fun vs => vs = [some (.pv (toldR a ts b us c 0))] ∧ ts.length = us.length) ?_ ?_
        · simp (maxSteps := 3000000) (disch := decide) only [↓psE, psO, forall_const, ↓iAdd, ↓iSub, ↓iMul, ↓iDiv, ↓iMod, ↓iPow, ↓iLt, ↓iLe, ↓iGt, ↓iGe, T.ne_Ratio_Vector, T.ne_Ratio_Poly, T.ne_Vector_Ratio, T.ne_Vector_Poly, T.ne_Poly_Ratio, T.ne_Poly_Vector, T.ne_Empty_ZeroBottom, T.ne_ZeroBottom_Empty, ↓reduceIte, Nat.reduceLeDiff, Nat.reduceLT, reduceCtorEq, isiInt, isiBool, isiStr, isiC, isiTup, isiLst, isiOr, nfC, inL, startP, startI, setAll, List.replicate, Nat.reduceSub, Nat.reduceAdd, List.length_map, Int.natCast_inj, Int.toNat_natCast, Int.zero_add, toD_lst, toD_tup, shaped_lst, shaped_tup, eqv_lst, eqv_tup, toD_nil, shaped_nil, eqv_nil, List.length_set, List.length_range, rangeP_len, ixN_0, ↓i_Vector_add, sm, xp_SizeMismatch]
          refine ⟨⟨k1, k2⟩, fun e => ?_, fun e => ⟨[_], ⟨rfl, e⟩, rfl⟩⟩
          exact ⟨[_, _, _], ⟨_, _, rfl, h1 e⟩, rfl⟩
        · rintro vs ⟨rfl, e⟩
          refine cutS [] (fun vs => vs = []) ?_ ?_
          · simp (maxSteps := 3000000) (disch := decide) only [↓psE, psO, forall_const, ↓iAdd, ↓iSub, ↓iMul, ↓iDiv, ↓iMod, ↓iPow, ↓iLt, ↓iLe, ↓iGt, ↓iGe, T.ne_Ratio_Vector, T.ne_Ratio_Poly, T.ne_Vector_Ratio, T.ne_Vector_Poly, T.ne_Poly_Ratio, T.ne_Poly_Vector, T.ne_Empty_ZeroBottom, T.ne_ZeroBottom_Empty, ↓reduceIte, Nat.reduceLeDiff, Nat.reduceLT, reduceCtorEq, isiInt, isiBool, isiStr, isiC, isiTup, isiLst, isiOr, nfC, inL, startP, startI, setAll, List.replicate, Nat.reduceSub, Nat.reduceAdd, List.length_map, Int.natCast_inj, Int.toNat_natCast, Int.zero_add, toD_lst, toD_tup, shaped_lst, shaped_tup, eqv_lst, eqv_tup, toD_nil, shaped_nil, eqv_nil, List.length_set, List.length_range, rangeP_len, ixN_0]
            exact ⟨[], rfl, rfl⟩
          · rintro vs rfl
            simp (maxSteps := 3000000) (disch := decide) only [↓psE, psO, forall_const, ↓iAdd, ↓iSub, ↓iMul, ↓iDiv, ↓iMod, ↓iPow, ↓iLt, ↓iLe, ↓iGt, ↓iGe, T.ne_Ratio_Vector, T.ne_Ratio_Poly, T.ne_Vector_Ratio, T.ne_Vector_Poly, T.ne_Poly_Ratio, T.ne_Poly_Vector, T.ne_Empty_ZeroBottom, T.ne_ZeroBottom_Empty, ↓reduceIte, Nat.reduceLeDiff, Nat.reduceLT, reduceCtorEq, isiInt, isiBool, isiStr, isiC, isiTup, isiLst, isiOr, nfC, inL, startP, startI, setAll, List.replicate, Nat.reduceSub, Nat.reduceAdd, List.length_map, Int.natCast_inj, Int.toNat_natCast, Int.zero_add, toD_lst, toD_tup, shaped_lst, shaped_tup, eqv_lst, eqv_tup, toD_nil, shaped_nil, eqv_nil, List.length_set, List.length_range, rangeP_len, ixN_0]
            exact ⟨[_, _, _], ⟨_, _, rfl, h2 e⟩, rfl⟩
      · refine cutS [] (fun vs => vs = []) ?_ ?_
        · simp (maxSteps := 3000000) (disch := decide) only [↓psE, psO, forall_const, ↓iAdd, ↓iSub, ↓iMul, ↓iDiv, ↓iMod, ↓iPow, ↓iLt, ↓iLe, ↓iGt, ↓iGe, T.ne_Ratio_Vector, T.ne_Ratio_Poly, T.ne_Vector_Ratio, T.ne_Vector_Poly, T.ne_Poly_Ratio, T.ne_Poly_Vector, T.ne_Empty_ZeroBottom, T.ne_ZeroBottom_Empty, ↓reduceIte, Nat.reduceLeDiff, Nat.reduceLT, reduceCtorEq, isiInt, isiBool, isiStr, isiC, isiTup, isiLst, isiOr, nfC, inL, startP, startI, setAll, List.replicate, Nat.reduceSub, Nat.reduceAdd, List.length_map, Int.natCast_inj, Int.toNat_natCast, Int.zero_add, toD_lst, toD_tup, shaped_lst, shaped_tup, eqv_lst, eqv_tup, toD_nil, shaped_nil, eqv_nil, List.length_set, List.length_range, rangeP_len, ixN_0]
          exact ⟨[], rfl, rfl⟩
        rintro vs rfl
        refine cutS [3] (fun vs => vs = [some (.pv (toldR a ts b us c 1))] ∧ ts.length = us.length) ?_ ?_
        · simp (maxSteps := 3000000) (disch := decide) only [↓psE, psO, forall_const, ↓iAdd, ↓iSub, ↓iMul, ↓iDiv, ↓iMod, ↓iPow, ↓iLt, ↓iLe, ↓iGt, ↓iGe, T.ne_Ratio_Vector, T.ne_Ratio_Poly, T.ne_Vector_Ratio, T.ne_Vector_Poly, T.ne_Poly_Ratio, T.ne_Poly_Vector, T.ne_Empty_ZeroBottom, T.ne_ZeroBottom_Empty, ↓reduceIte, Nat.reduceLeDiff, Nat.reduceLT, reduceCtorEq, isiInt, isiBool, isiStr, isiC, isiTup, isiLst, isiOr, nfC, inL, startP, startI, setAll, List.replicate, Nat.reduceSub, Nat.reduceAdd, List.length_map, Int.natCast_inj, Int.toNat_natCast, Int.zero_add, toD_lst, toD_tup, shaped_lst, shaped_tup, eqv_lst, eqv_tup, toD_nil, shaped_nil, eqv_nil, List.length_set, List.length_range, rangeP_len, ixN_0, ↓i_Vector_sub, sm, xp_SizeMismatch]
          refine ⟨⟨k1, k2⟩, fun e => ?_, fun e => ⟨[_], ⟨rfl, e⟩, rfl⟩⟩
          exact ⟨[_, _, _], ⟨_, _, rfl, h1 e⟩, rfl⟩
        · rintro vs ⟨rfl, e⟩
          simp (maxSteps := 3000000) (disch := decide) only [↓psE, psO, forall_const, ↓iAdd, ↓iSub, ↓iMul, ↓iDiv, ↓iMod, ↓iPow, ↓iLt, ↓iLe, ↓iGt, ↓iGe, T.ne_Ratio_Vector, T.ne_Ratio_Poly, T.ne_Vector_Ratio, T.ne_Vector_Poly, T.ne_Poly_Ratio, T.ne_Poly_Vector, T.ne_Empty_ZeroBottom, T.ne_ZeroBottom_Empty, ↓reduceIte, Nat.reduceLeDiff, Nat.reduceLT, reduceCtorEq, isiInt, isiBool, isiStr, isiC, isiTup, isiLst, isiOr, nfC, inL, startP, startI, setAll, List.replicate, Nat.reduceSub, Nat.reduceAdd, List.length_map, Int.natCast_inj, Int.toNat_natCast, Int.zero_add, toD_lst, toD_tup, shaped_lst, shaped_tup, eqv_lst, eqv_tup, toD_nil, shaped_nil, eqv_nil, List.length_set, List.length_range, rangeP_len, ixN_0]
          exact ⟨[_, _, _], ⟨_, _, rfl, h2 e⟩, rfl⟩
      · refine cutS [] (fun vs => vs = []) ?_ ?_
        · simp (maxSteps := 3000000) (disch := decide) only [↓psE, psO, forall_const, ↓iAdd, ↓iSub, ↓iMul, ↓iDiv, ↓iMod, ↓iPow, ↓iLt, ↓iLe, ↓iGt, ↓iGe, T.ne_Ratio_Vector, T.ne_Ratio_Poly, T.ne_Vector_Ratio, T.ne_Vector_Poly, T.ne_Poly_Ratio, T.ne_Poly_Vector, T.ne_Empty_ZeroBottom, T.ne_ZeroBottom_Empty, ↓reduceIte, Nat.reduceLeDiff, Nat.reduceLT, reduceCtorEq, isiInt, isiBool, isiStr, isiC, isiTup, isiLst, isiOr, nfC, inL, startP, startI, setAll, List.replicate, Nat.reduceSub, Nat.reduceAdd, List.length_map, Int.natCast_inj, Int.toNat_natCast, Int.zero_add, toD_lst, toD_tup, shaped_lst, shaped_tup, eqv_lst, eqv_tup, toD_nil, shaped_nil, eqv_nil, List.length_set, List.length_range, rangeP_len, ixN_0]
          exact ⟨[], rfl, rfl⟩
        rintro vs rfl
        refine cutS [] (fun vs => vs = []) ?_ ?_
        · simp (maxSteps := 3000000) (disch := decide) only [↓psE, psO, forall_const, ↓iAdd, ↓iSub, ↓iMul, ↓iDiv, ↓iMod, ↓iPow, ↓iLt, ↓iLe, ↓iGt, ↓iGe, T.ne_Ratio_Vector, T.ne_Ratio_Poly, T.ne_Vector_Ratio, T.ne_Vector_Poly, T.ne_Poly_Ratio, T.ne_Poly_Vector, T.ne_Empty_ZeroBottom, T.ne_ZeroBottom_Empty, ↓reduceIte, Nat.reduceLeDiff, Nat.reduceLT, reduceCtorEq, isiInt, isiBool, isiStr, isiC, isiTup, isiLst, isiOr, nfC, inL, startP, startI, setAll, List.replicate, Nat.reduceSub, Nat.reduceAdd, List.length_map, Int.natCast_inj, Int.toNat_natCast, Int.zero_add, toD_lst, toD_tup, shaped_lst, shaped_tup, eqv_lst, eqv_tup, toD_nil, shaped_nil, eqv_nil, List.length_set, List.length_range, rangeP_len, ixN_0]
          exact ⟨[], rfl, rfl⟩
        rintro vs rfl
        simp (maxSteps := 3000000) (disch := decide) only [↓psE, psO, forall_const, ↓iAdd, ↓iSub, ↓iMul, ↓iDiv, ↓iMod, ↓iPow, ↓iLt, ↓iLe, ↓iGt, ↓iGe, T.ne_Ratio_Vector, T.ne_Ratio_Poly, T.ne_Vector_Ratio, T.ne_Vector_Poly, T.ne_Poly_Ratio, T.ne_Poly_Vector, T.ne_Empty_ZeroBottom, T.ne_ZeroBottom_Empty, ↓reduceIte, Nat.reduceLeDiff, Nat.reduceLT, reduceCtorEq, isiInt, isiBool, isiStr, isiC, isiTup, isiLst, isiOr, nfC, inL, startP, startI, setAll, List.replicate, Nat.reduceSub, Nat.reduceAdd, List.length_map, Int.natCast_inj, Int.toNat_natCast, Int.zero_add, toD_lst, toD_tup, shaped_lst, shaped_tup, eqv_lst, eqv_tup, toD_nil, shaped_nil, eqv_nil, List.length_set, List.length_range, rangeP_len, ixN_0, ↓i_Vector_dot, sm, xp_SizeMismatch]
        refine ⟨⟨k1, k2⟩, fun e => ?_, fun e => ⟨[_, _, _], ⟨_, _, rfl, h2 e⟩, rfl⟩⟩
        exact ⟨[_, _, _], ⟨_, _, rfl, h1 e⟩, rfl⟩
    · rintro vs ⟨x, z, rfl, hq⟩
      simp (maxSteps := 3000000) (disch := decide) only [↓psE, psO, forall_const, ↓iAdd, ↓iSub, ↓iMul, ↓iDiv, ↓iMod, ↓iPow, ↓iLt, ↓iLe, ↓iGt, ↓iGe, T.ne_Ratio_Vector, T.ne_Ratio_Poly, T.ne_Vector_Ratio, T.ne_Vector_Poly, T.ne_Poly_Ratio, T.ne_Poly_Vector, T.ne_Empty_ZeroBottom, T.ne_ZeroBottom_Empty, ↓reduceIte, Nat.reduceLeDiff, Nat.reduceLT, reduceCtorEq, isiInt, isiBool, isiStr, isiC, isiTup, isiLst, isiOr, nfC, inL, startP, startI, setAll, List.replicate, Nat.reduceSub, Nat.reduceAdd, List.length_map, Int.natCast_inj, Int.toNat_natCast, Int.zero_add, toD_lst, toD_tup, shaped_lst, shaped_tup, eqv_lst, eqv_tup, toD_nil, shaped_nil, eqv_nil, List.length_set, List.length_range, rangeP_len, ixN_0]
      exact hq

theorem ok_law_pair (T : Txt K mg a) (S : Fs K a d) : FnOk P w K mg base (L2.CX P w) 7 a.f_law_pair d.d_law_pair ["v", "w", "a", "b"] (spP K (P_law_pair a)) := by
  refine fa_q (k := 6) S.F_law_pair sc_law_pair (len_law_pair a) (fun cdv A outer s H E hr =>
    (jss_cut (js_forR1 4 (passes_of rfl) rfl sc_law_pair.nd T.b_range (ja_cons je_int ja_nil)
        (jss_cons (js_unp [5, 6] rfl (pgs_cons (pg_name (i := 5) sc_law_pair.nd rfl (Or.inl rfl)) (pgs_cons (pg_name (i := 6) sc_law_pair.nd rfl (Or.inl rfl)) pgs_nil)) (je_call (ok_law_asked T S) (hr.mono (by decide)) T.mg_law_asked S.F_law_asked.kp S.B_law_asked .nil (fun _ => .nil) (tkOf (takes_of rfl rfl rfl rfl)) (ja_cons (je_var 0) (ja_cons (je_var 1) (ja_cons (je_var 4) ja_nil)))))
      (jss_one (js_if (jt_ne (je_len T.b_len (ja_cons (je_ix (je_var 2) je_int) ja_nil)) (je_len T.b_len (ja_cons (je_ix (je_var 3) je_int) ja_nil))) (jss_cons (js_if (jt_w (jw_or (jt_notN (je_var 5) je_non) (jw_or1 (jt_neD hr (je_var 6) (je_lst (ja_cons (je_len T.b_len (ja_cons (je_ix (je_var 2) je_int) ja_nil)) (ja_cons (je_len T.b_len (ja_cons (je_ix (je_var 3) je_int) ja_nil)) (ja_cons je_str (ja_cons je_bl (ja_cons je_bl (ja_cons je_bl ja_nil))))))))))) (jss_one (js_ret je_bl)) jss_nil)
      (jss_one (js_if (jt_w (jw_or (jt_not (jt_val (je_call (ok_law_is_integer T S) (hr.mono (by decide)) T.mg_law_is_integer S.F_law_is_integer.kp S.B_law_is_integer .nil (fun _ => .nil) (tkOf (takes_of rfl rfl rfl rfl)) (ja_cons (je_ix (je_var 6) je_int) ja_nil)))) (jw_or1 (jt_not (jt_val (je_call (ok_law_is_integer T S) (hr.mono (by decide)) T.mg_law_is_integer S.F_law_is_integer.kp S.B_law_is_integer .nil (fun _ => .nil) (tkOf (takes_of rfl rfl rfl rfl)) (ja_cons (je_ix (je_var 6) je_int) ja_nil))))))) (jss_one (js_ret je_bl)) jss_nil))) (jss_one (js_if (jt_eq (je_var 4) je_int) (jss_cons (js_set 7 sc_law_pair.nd (je_sum rfl T.b_sum (ja_cons (je_lc (own := [("k", 8)]) (g := (gName 8)) (t := (tName 8)) rfl sc_law_pair.nd (ji_range1 T.b_range (ja_cons (je_len T.b_len (ja_cons (je_ix (je_var 2) je_int) ja_nil)) ja_nil)) (blkOk_by (N := ["v", "w", "a", "b", "road", "told", "refused", "due", "k", "tops", "same"]) (sc := defScope s_law_pair) (by decide +kernel)) (tg_name 8) (fun _ _ _ _ _ => pg_name (i := 8) sc_law_pair.nd rfl (Or.inl rfl)) (fun _ _ _ _ _ => jts_nil) (fun _ _ _ _ _ => (je_mul (je_ix (je_ix (je_var 2) je_int) (je_var 8)) (je_ix (je_ix (je_var 3) je_int) (je_var 8))))) ja_nil)))
      (jss_one (js_if (jt_w (jw_or (jt_neD hr (je_var 6) (je_lst ja_nil)) (jw_or1 (jt_not (jt_val (je_call (ok_law_is_ratio T S) (hr.mono (by decide)) T.mg_law_is_ratio S.F_law_is_ratio.kp S.B_law_is_ratio .nil (fun _ => .nil) (tkOf (takes_of rfl rfl rfl rfl)) (ja_cons (je_var 5) (ja_cons (je_call (ok_law_ratio T S) (hr.mono (by decide)) T.mg_law_ratio S.F_law_ratio.kp S.B_law_ratio .nil (fun _ => .nil) (tkOf (takes_of rfl rfl rfl rfl)) (ja_cons (je_var 7) (ja_cons (je_mul (je_ix (je_var 2) je_int) (je_ix (je_var 3) je_int)) ja_nil))) ja_nil)))))))) (jss_one (js_ret je_bl)) jss_nil))) (jss_cons (js_setLc 9 (own := [("k", 8)]) (g := (gName 8)) (t := (tName 8)) rfl sc_law_pair.nd (ji_range1 T.b_range (ja_cons (je_len T.b_len (ja_cons (je_ix (je_var 2) je_int) ja_nil)) ja_nil)) (blkOk_by (N := ["v", "w", "a", "b", "road", "told", "refused", "due", "k", "tops", "same"]) (sc := defScope s_law_pair) (by decide +kernel)) (tg_name 8) (fun _ _ _ _ _ => pg_name (i := 8) sc_law_pair.nd rfl (Or.inl rfl)) (fun _ _ _ _ _ => jts_nil) (fun _ _ _ _ _ => (je_add (je_mul (je_ix (je_ix (je_var 2) je_int) (je_var 8)) (je_ix (je_var 3) je_int)) (je_mul (je_mul (je_sub je_int (je_mul je_int (je_var 4))) (je_ix (je_ix (je_var 3) je_int) (je_var 8))) (je_ix (je_var 2) je_int)))))
      (jss_one (js_if (jt_w (jw_or (jt_neD hr (je_var 6) (je_lst ja_nil)) (jw_or1 (jt_not (jt_val (je_call (ok_law_is T S) (hr.mono (by decide)) T.mg_law_is S.F_law_is.kp S.B_law_is .nil (fun _ => .nil) (tkOf (takes_of rfl rfl rfl rfl)) (ja_cons (je_var 5) (ja_cons (je_call (ok_law_low T S) (hr.mono (by decide)) T.mg_law_low S.F_law_low.kp S.B_law_low .nil (fun _ => .nil) (tkOf (takes_of rfl rfl rfl rfl)) (ja_cons (je_var 9) (ja_cons (je_mul (je_ix (je_var 2) je_int) (je_ix (je_var 3) je_int)) ja_nil))) ja_nil)))))))) (jss_one (js_ret je_bl)) jss_nil)))))))))
      (jss_cons (js_set 10 sc_law_pair.nd (je_and (je_eqD hr (je_ix (je_var 2) je_int) (je_ix (je_var 3) je_int)) (je_one (je_eq (je_ix (je_var 2) je_int) (je_ix (je_var 3) je_int)))))
      (jss_one (js_ret (je_and (je_call (ok_law_truth T S) (hr.mono (by decide)) T.mg_law_truth S.F_law_truth.kp S.B_law_truth .nil (fun _ => .nil) (tkOf (takes_of rfl rfl rfl rfl)) (ja_cons (je_eqO (nf_c (os := [a.C_Ratio, a.C_Poly]) T.is_Vector T.nf_Vector T.nfo_Vector) T.fi_Vector_eq T.isf_Vector_eq (ok_Vector_eq T S) (hr.mono (by decide)) S.B_Vector_eq (je_var 0) (je_var 1)) (ja_cons (je_var 10) ja_nil))) (je_one (je_call (ok_law_truth T S) (hr.mono (by decide)) T.mg_law_truth S.F_law_truth.kp S.B_law_truth .nil (fun _ => .nil) (tkOf (takes_of rfl rfl rfl rfl)) (ja_cons (je_neO (nf_c (os := [a.C_Ratio, a.C_Poly]) T.is_Vector T.nf_Vector T.nfo_Vector) T.ne_Vector T.is_Vector.hm T.fi_Vector_eq T.isf_Vector_eq (ok_Vector_eq T S) (hr.mono (by decide)) S.B_Vector_eq (je_var 0) (je_var 1)) (ja_cons (je_not (je_var 10)) ja_nil)))))))))) ?pure
  case pure =>
    rintro xs y Q ⟨ts, b, us, c, rfl, ⟨k1, k2⟩, h⟩
    have g1 := k1.2
    have g2 := k2.2
    obtain ⟨l1, g11, g12, g13, g14, g15⟩ := k1
    obtain ⟨l2, g21, g22, g23, g24, g25⟩ := k2
    have k1 : LV ts b := ⟨l1, g1⟩
    have k2 : LV us c := ⟨l2, g2⟩
    have hb8 : b * c ≠ 0 := Int.mul_ne_zero g13 g23
    have sb8 : Sz 400 (b * c) := g12.mul g22
    have hL := lcmZ_ne g13 g23
    have hLb : (lcmZ b c).fdiv b * b = lcmZ b c := by rw [Int.mul_comm]; exact fdiv_dvd (lcmZ_dl b c)
    have hLc : (lcmZ b c).fdiv c * c = lcmZ b c := by rw [Int.mul_comm]; exact fdiv_dvd (lcmZ_dr b c)
    simp (maxSteps := 3000000) (disch := decide) only [↓psE, psO, forall_const, ↓iAdd, ↓iSub, ↓iMul, ↓iDiv, ↓iMod, ↓iPow, ↓iLt, ↓iLe, ↓iGt, ↓iGe, T.ne_Ratio_Vector, T.ne_Ratio_Poly, T.ne_Vector_Ratio, T.ne_Vector_Poly, T.ne_Poly_Ratio, T.ne_Poly_Vector, T.ne_Empty_ZeroBottom, T.ne_ZeroBottom_Empty, ↓reduceIte, Nat.reduceLeDiff, Nat.reduceLT, reduceCtorEq, isiInt, isiBool, isiStr, isiC, isiTup, isiLst, isiOr, nfC, inL, startP, startI, setAll, List.replicate, Nat.reduceSub, Nat.reduceAdd, List.length_map, Int.natCast_inj, Int.toNat_natCast, Int.zero_add, toD_lst, toD_tup, shaped_lst, shaped_tup, eqv_lst, eqv_tup, toD_nil, shaped_nil, eqv_nil, List.length_set, List.length_range, rangeP_len, ixN_0]
    refine cutS [4, 5, 6, 7, 8, 9] (fun vs => ∃ v0 v1 v2 v3 v4 v5, vs = [v0, v1, v2, v3, v4, v5]) ?_ ?_
    · simp (maxSteps := 3000000) (disch := decide) only [↓psE, psO, forall_const, ↓iAdd, ↓iSub, ↓iMul, ↓iDiv, ↓iMod, ↓iPow, ↓iLt, ↓iLe, ↓iGt, ↓iGe, T.ne_Ratio_Vector, T.ne_Ratio_Poly, T.ne_Vector_Ratio, T.ne_Vector_Poly, T.ne_Poly_Ratio, T.ne_Poly_Vector, T.ne_Empty_ZeroBottom, T.ne_ZeroBottom_Empty, ↓reduceIte, Nat.reduceLeDiff, Nat.reduceLT, reduceCtorEq, isiInt, isiBool, isiStr, isiC, isiTup, isiLst, isiOr, nfC, inL, startP, startI, setAll, List.replicate, Nat.reduceSub, Nat.reduceAdd, List.length_map, Int.natCast_inj, Int.toNat_natCast, Int.zero_add, toD_lst, toD_tup, shaped_lst, shaped_tup, eqv_lst, eqv_tup, toD_nil, shaped_nil, eqv_nil, List.length_set, List.length_range, rangeP_len, ixN_0]
      refine ⟨by decide, by decide, ?_⟩
      refine loopS [4, 5, 6, 7, 8, 9] (fun _ vs => ∃ v0 v1 v2 v3 v4 v5, vs = [v0, v1, v2, v3, v4, v5]) [none, none, none, none, none, none] rfl ⟨_, _, _, _, _, _, rfl⟩ ?_ (fun vs h => ⟨vs, h, rfl⟩)
      rintro j x vs N hx hN ⟨v0, v1, v2, v3, v4, v5, rfl⟩
      obtain ⟨hk, rfl⟩ := rangeP_at hx
      have hk : j < 3 := hk
      simp (maxSteps := 3000000) (disch := decide) only [↓psE, psO, forall_const, ↓iAdd, ↓iSub, ↓iMul, ↓iDiv, ↓iMod, ↓iPow, ↓iLt, ↓iLe, ↓iGt, ↓iGe, T.ne_Ratio_Vector, T.ne_Ratio_Poly, T.ne_Vector_Ratio, T.ne_Vector_Poly, T.ne_Poly_Ratio, T.ne_Poly_Vector, T.ne_Empty_ZeroBottom, T.ne_ZeroBottom_Empty, ↓reduceIte, Nat.reduceLeDiff, Nat.reduceLT, reduceCtorEq, isiInt, isiBool, isiStr, isiC, isiTup, isiLst, isiOr, nfC, inL, startP, startI, setAll, List.replicate, Nat.reduceSub, Nat.reduceAdd, List.length_map, Int.natCast_inj, Int.toNat_natCast, Int.zero_add, toD_lst, toD_tup, shaped_lst, shaped_tup, eqv_lst, eqv_tup, toD_nil, shaped_nil, eqv_nil, List.length_set, List.length_range, rangeP_len, ixN_0]
      refine ⟨ts, b, us, c, (j : Int), rfl, ⟨k1, k2, by omega, by omega⟩, fun e => ?_, fun e => ?_⟩
      · simp (maxSteps := 3000000) (disch := decide) only [↓psE, psO, forall_const, ↓iAdd, ↓iSub, ↓iMul, ↓iDiv, ↓iMod, ↓iPow, ↓iLt, ↓iLe, ↓iGt, ↓iGe, T.ne_Ratio_Vector, T.ne_Ratio_Poly, T.ne_Vector_Ratio, T.ne_Vector_Poly, T.ne_Poly_Ratio, T.ne_Poly_Vector, T.ne_Empty_ZeroBottom, T.ne_ZeroBottom_Empty, ↓reduceIte, Nat.reduceLeDiff, Nat.reduceLT, reduceCtorEq, isiInt, isiBool, isiStr, isiC, isiTup, isiLst, isiOr, nfC, inL, startP, startI, setAll, List.replicate, Nat.reduceSub, Nat.reduceAdd, List.length_map, Int.natCast_inj, Int.toNat_natCast, Int.zero_add, toD_lst, toD_tup, shaped_lst, shaped_tup, eqv_lst, eqv_tup, toD_nil, shaped_nil, eqv_nil, List.length_set, List.length_range, rangeP_len, ixN_0, refusedS, if_pos e]
        have e' : ¬ (ts.length : Int) = us.length := by omega
        simp (maxSteps := 3000000) (disch := decide) only [↓psE, psO, forall_const, ↓iAdd, ↓iSub, ↓iMul, ↓iDiv, ↓iMod, ↓iPow, ↓iLt, ↓iLe, ↓iGt, ↓iGe, T.ne_Ratio_Vector, T.ne_Ratio_Poly, T.ne_Vector_Ratio, T.ne_Vector_Poly, T.ne_Poly_Ratio, T.ne_Poly_Vector, T.ne_Empty_ZeroBottom, T.ne_ZeroBottom_Empty, ↓reduceIte, Nat.reduceLeDiff, Nat.reduceLT, reduceCtorEq, isiInt, isiBool, isiStr, isiC, isiTup, isiLst, isiOr, nfC, inL, startP, startI, setAll, List.replicate, Nat.reduceSub, Nat.reduceAdd, List.length_map, Int.natCast_inj, Int.toNat_natCast, Int.zero_add, toD_lst, toD_tup, shaped_lst, shaped_tup, eqv_lst, eqv_tup, toD_nil, shaped_nil, eqv_nil, List.length_set, List.length_range, rangeP_len, ixN_0, refusedS, e, toD, toDs, ↓i_law_is_integer]
        have hsh : SeqAt.shaped (.list [.int ts.length, .int us.length, .str "sizes", .bool true, .bool true, .bool false]) = true := by
          have hs : PyData.canLay0 (.str "sizes") = true := by decide +kernel
          show (PyData.canLayAll0 _ && decide (PyData.depthAll _ + 1 ≤ 64)) = true
          simp only [PyData.canLayAll0, PyData.canLay0, PyData.depthAll, PyData.depth] at hs ⊢
          rw [hs]
          rfl
        refine ⟨hsh, hsh, ?_⟩
        rw [if_neg (by rw [eqv_sh hsh]; decide)]
        exact hN [_, _, _, _, _, _] ⟨_, _, _, _, _, _, rfl⟩
      · by_cases j2 : j = 2
        · subst j2
          rw [show toldR a ts b us c ((2 : Nat) : Int) = rat a.C_Ratio (nT (dotI ts us) (b * c)) (nB (dotI ts us) (b * c)) from rfl]
          simp (maxSteps := 3000000) (disch := decide) only [↓psE, psO, forall_const, ↓iAdd, ↓iSub, ↓iMul, ↓iDiv, ↓iMod, ↓iPow, ↓iLt, ↓iLe, ↓iGt, ↓iGe, T.ne_Ratio_Vector, T.ne_Ratio_Poly, T.ne_Vector_Ratio, T.ne_Vector_Poly, T.ne_Poly_Ratio, T.ne_Poly_Vector, T.ne_Empty_ZeroBottom, T.ne_ZeroBottom_Empty, ↓reduceIte, Nat.reduceLeDiff, Nat.reduceLT, reduceCtorEq, isiInt, isiBool, isiStr, isiC, isiTup, isiLst, isiOr, nfC, inL, startP, startI, setAll, List.replicate, Nat.reduceSub, Nat.reduceAdd, List.length_map, Int.natCast_inj, Int.toNat_natCast, Int.zero_add, toD_lst, toD_tup, shaped_lst, shaped_tup, eqv_lst, eqv_tup, toD_nil, shaped_nil, eqv_nil, List.length_set, List.length_range, rangeP_len, ixN_0, show ((2 : Nat) : Int) = 2 from rfl, shaped_nil, e]
          refine ⟨by omega, by omega, by omega, coll_places (fun i => ts.getD i 0 * us.getD i 0) us.length (fun i hi R hR => ?_) ?_⟩
          · simp (maxSteps := 3000000) (disch := decide) only [↓psE, psO, forall_const, ↓iAdd, ↓iSub, ↓iMul, ↓iDiv, ↓iMod, ↓iPow, ↓iLt, ↓iLe, ↓iGt, ↓iGe, T.ne_Ratio_Vector, T.ne_Ratio_Poly, T.ne_Vector_Ratio, T.ne_Vector_Poly, T.ne_Poly_Ratio, T.ne_Poly_Vector, T.ne_Empty_ZeroBottom, T.ne_ZeroBottom_Empty, ↓reduceIte, Nat.reduceLeDiff, Nat.reduceLT, reduceCtorEq, isiInt, isiBool, isiStr, isiC, isiTup, isiLst, isiOr, nfC, inL, startP, startI, setAll, List.replicate, Nat.reduceSub, Nat.reduceAdd, List.length_map, Int.natCast_inj, Int.toNat_natCast, Int.zero_add, toD_lst, toD_tup, shaped_lst, shaped_tup, eqv_lst, eqv_tup, toD_nil, shaped_nil, eqv_nil, List.length_set, List.length_range, rangeP_len, ixN_0, atI_getD hi, atI_getD (show i < ts.length by omega)]
            exact ⟨mulW (g11 _ (QL.getD_mem (by omega))) (g21 _ (QL.getD_mem hi)) (by decide), hR⟩
          · rw [← e, range_zip (fun x z => x * z) e, intsOf_map]
            simp (maxSteps := 3000000) (disch := decide) only [↓psE, psO, forall_const, ↓iAdd, ↓iSub, ↓iMul, ↓iDiv, ↓iMod, ↓iPow, ↓iLt, ↓iLe, ↓iGt, ↓iGe, T.ne_Ratio_Vector, T.ne_Ratio_Poly, T.ne_Vector_Ratio, T.ne_Vector_Poly, T.ne_Poly_Ratio, T.ne_Poly_Vector, T.ne_Empty_ZeroBottom, T.ne_ZeroBottom_Empty, ↓reduceIte, Nat.reduceLeDiff, Nat.reduceLT, reduceCtorEq, isiInt, isiBool, isiStr, isiC, isiTup, isiLst, isiOr, nfC, inL, startP, startI, setAll, List.replicate, Nat.reduceSub, Nat.reduceAdd, List.length_map, Int.natCast_inj, Int.toNat_natCast, Int.zero_add, toD_lst, toD_tup, shaped_lst, shaped_tup, eqv_lst, eqv_tup, toD_nil, shaped_nil, eqv_nil, List.length_set, List.length_range, rangeP_len, ixN_0, ↓i_law_ratio]
            rw [if_neg (by decide +kernel)]
            refine ⟨mulW g12 g22 (by decide), hb8, sb8.mono (by decide), ?_⟩
            have := i_law_is_ratio a
            simp (maxSteps := 3000000) (disch := decide) only [↓psE, psO, forall_const, ↓iAdd, ↓iSub, ↓iMul, ↓iDiv, ↓iMod, ↓iPow, ↓iLt, ↓iLe, ↓iGt, ↓iGe, T.ne_Ratio_Vector, T.ne_Ratio_Poly, T.ne_Vector_Ratio, T.ne_Vector_Poly, T.ne_Poly_Ratio, T.ne_Poly_Vector, T.ne_Empty_ZeroBottom, T.ne_ZeroBottom_Empty, ↓reduceIte, Nat.reduceLeDiff, Nat.reduceLT, reduceCtorEq, isiInt, isiBool, isiStr, isiC, isiTup, isiLst, isiOr, nfC, inL, startP, startI, setAll, List.replicate, Nat.reduceSub, Nat.reduceAdd, List.length_map, Int.natCast_inj, Int.toNat_natCast, Int.zero_add, toD_lst, toD_tup, shaped_lst, shaped_tup, eqv_lst, eqv_tup, toD_nil, shaped_nil, eqv_nil, List.length_set, List.length_range, rangeP_len, ixN_0, ↓i_law_is_ratio, show (List.zipWith (fun x z => x * z) ts us).sum = dotI ts us from rfl]
            exact hN [_, _, _, _, _, _] ⟨_, _, _, _, _, _, rfl⟩
        · have key : ∃ U : List Int, toldR a ts b us c (j : Int) = vecN a.C_Vector U (lcmZ b c) ∧ normT U (lcmZ b c) = normT (List.zipWith (fun x z => x * c + (1 - 2 * (j : Int)) * z * b) ts us) (b * c) ∧ normB U (lcmZ b c) = normB (List.zipWith (fun x z => x * c + (1 - 2 * (j : Int)) * z * b) ts us) (b * c) := by
            rcases (show j = 0 ∨ j = 1 by omega) with rfl | rfl
            · exact ⟨addT ts b us c, rfl, norm_cross hL hb8 (wsum_cross ts us hLb (by rw [hLc]; simp))⟩
            · exact ⟨subT ts b us c, rfl, norm_cross hL hb8 (wsum_cross ts us hLb (by rw [Int.neg_mul, hLc]; simp))⟩
          obtain ⟨U, ht, e1, e2⟩ := key
          rw [ht]
          have j2' : ¬ (j : Int) = 2 := by omega
          simp (maxSteps := 3000000) (disch := decide) only [↓psE, psO, forall_const, ↓iAdd, ↓iSub, ↓iMul, ↓iDiv, ↓iMod, ↓iPow, ↓iLt, ↓iLe, ↓iGt, ↓iGe, T.ne_Ratio_Vector, T.ne_Ratio_Poly, T.ne_Vector_Ratio, T.ne_Vector_Poly, T.ne_Poly_Ratio, T.ne_Poly_Vector, T.ne_Empty_ZeroBottom, T.ne_ZeroBottom_Empty, ↓reduceIte, Nat.reduceLeDiff, Nat.reduceLT, reduceCtorEq, isiInt, isiBool, isiStr, isiC, isiTup, isiLst, isiOr, nfC, inL, startP, startI, setAll, List.replicate, Nat.reduceSub, Nat.reduceAdd, List.length_map, Int.natCast_inj, Int.toNat_natCast, Int.zero_add, toD_lst, toD_tup, shaped_lst, shaped_tup, eqv_lst, eqv_tup, toD_nil, shaped_nil, eqv_nil, List.length_set, List.length_range, rangeP_len, ixN_0, shaped_nil, e, j2']
          refine ⟨by omega, by omega, by omega, coll_places (fun i => ts.getD i 0 * c + (1 - 2 * (j : Int)) * us.getD i 0 * b) us.length (fun i hi R hR => ?_) ?_⟩
          · simp (maxSteps := 3000000) (disch := decide) only [↓psE, psO, forall_const, ↓iAdd, ↓iSub, ↓iMul, ↓iDiv, ↓iMod, ↓iPow, ↓iLt, ↓iLe, ↓iGt, ↓iGe, T.ne_Ratio_Vector, T.ne_Ratio_Poly, T.ne_Vector_Ratio, T.ne_Vector_Poly, T.ne_Poly_Ratio, T.ne_Poly_Vector, T.ne_Empty_ZeroBottom, T.ne_ZeroBottom_Empty, ↓reduceIte, Nat.reduceLeDiff, Nat.reduceLT, reduceCtorEq, isiInt, isiBool, isiStr, isiC, isiTup, isiLst, isiOr, nfC, inL, startP, startI, setAll, List.replicate, Nat.reduceSub, Nat.reduceAdd, List.length_map, Int.natCast_inj, Int.toNat_natCast, Int.zero_add, toD_lst, toD_tup, shaped_lst, shaped_tup, eqv_lst, eqv_tup, toD_nil, shaped_nil, eqv_nil, List.length_set, List.length_range, rangeP_len, ixN_0, atI_getD hi, atI_getD (show i < ts.length by omega)]
            have sj : Sz 6 (1 - 2 * (j : Int)) := sz_small (by omega) (by omega) (by decide)
            exact ⟨mulW (g11 _ (QL.getD_mem (by omega))) g22 (by decide), mulL (by omega), mulL (by omega), mulW (sj.mul (g21 _ (QL.getD_mem hi))) g12 (by decide), hR⟩
          · rw [← e, range_zip (fun x z => x * c + (1 - 2 * (j : Int)) * z * b) e]
            simp (maxSteps := 3000000) (disch := decide) only [↓psE, psO, forall_const, ↓iAdd, ↓iSub, ↓iMul, ↓iDiv, ↓iMod, ↓iPow, ↓iLt, ↓iLe, ↓iGt, ↓iGe, T.ne_Ratio_Vector, T.ne_Ratio_Poly, T.ne_Vector_Ratio, T.ne_Vector_Poly, T.ne_Poly_Ratio, T.ne_Poly_Vector, T.ne_Empty_ZeroBottom, T.ne_ZeroBottom_Empty, ↓reduceIte, Nat.reduceLeDiff, Nat.reduceLT, reduceCtorEq, isiInt, isiBool, isiStr, isiC, isiTup, isiLst, isiOr, nfC, inL, startP, startI, setAll, List.replicate, Nat.reduceSub, Nat.reduceAdd, List.length_map, Int.natCast_inj, Int.toNat_natCast, Int.zero_add, toD_lst, toD_tup, shaped_lst, shaped_tup, eqv_lst, eqv_tup, toD_nil, shaped_nil, eqv_nil, List.length_set, List.length_range, rangeP_len, ixN_0, ↓i_law_low]
            rw [if_neg (by decide +kernel)]
            refine ⟨mulW g12 g22 (by decide), ⟨hb8, sb8.mono (by decide), fun t ht => ?_, by rw [List.length_zipWith]; omega⟩, ?_⟩
            · obtain ⟨x, hx, z, hz, rfl⟩ := zip_mem ht
              have sj : Sz 6 (1 - 2 * (j : Int)) := sz_small (by omega) (by omega) (by decide)
              exact (((g11 x hx).mul g22).mono (show 200 + 200 ≤ 406 by decide) |>.add ((sj.mul (g21 z hz)).mul g12)).mono (by decide)
            simp (maxSteps := 3000000) (disch := decide) only [↓psE, psO, forall_const, ↓iAdd, ↓iSub, ↓iMul, ↓iDiv, ↓iMod, ↓iPow, ↓iLt, ↓iLe, ↓iGt, ↓iGe, T.ne_Ratio_Vector, T.ne_Ratio_Poly, T.ne_Vector_Ratio, T.ne_Vector_Poly, T.ne_Poly_Ratio, T.ne_Poly_Vector, T.ne_Empty_ZeroBottom, T.ne_ZeroBottom_Empty, ↓reduceIte, Nat.reduceLeDiff, Nat.reduceLT, reduceCtorEq, isiInt, isiBool, isiStr, isiC, isiTup, isiLst, isiOr, nfC, inL, startP, startI, setAll, List.replicate, Nat.reduceSub, Nat.reduceAdd, List.length_map, Int.natCast_inj, Int.toNat_natCast, Int.zero_add, toD_lst, toD_tup, shaped_lst, shaped_tup, eqv_lst, eqv_tup, toD_nil, shaped_nil, eqv_nil, List.length_set, List.length_range, rangeP_len, ixN_0, ↓i_law_is, e1, e2, normT_len]
            exact ⟨by rw [List.length_zipWith]; omega, hN [_, _, _, _, _, _] ⟨_, _, _, _, _, _, rfl⟩⟩
    rintro vs ⟨v0, v1, v2, v3, v4, v5, rfl⟩
    by_cases e : ts = us
    · subst e
      simp (maxSteps := 3000000) (disch := decide) only [↓psE, psO, forall_const, ↓iAdd, ↓iSub, ↓iMul, ↓iDiv, ↓iMod, ↓iPow, ↓iLt, ↓iLe, ↓iGt, ↓iGe, T.ne_Ratio_Vector, T.ne_Ratio_Poly, T.ne_Vector_Ratio, T.ne_Vector_Poly, T.ne_Poly_Ratio, T.ne_Poly_Vector, T.ne_Empty_ZeroBottom, T.ne_ZeroBottom_Empty, ↓reduceIte, Nat.reduceLeDiff, Nat.reduceLT, reduceCtorEq, isiInt, isiBool, isiStr, isiC, isiTup, isiLst, isiOr, nfC, inL, startP, startI, setAll, List.replicate, Nat.reduceSub, Nat.reduceAdd, List.length_map, Int.natCast_inj, Int.toNat_natCast, Int.zero_add, toD_lst, toD_tup, shaped_lst, shaped_tup, eqv_lst, eqv_tup, toD_nil, shaped_nil, eqv_nil, List.length_set, List.length_range, rangeP_len, ixN_0, ↓i_veq, ↓i_law_truth]
      generalize (b == c) = t
      cases t <;> exact ⟨⟨by omega, by omega⟩, ⟨by omega, by omega⟩, h⟩
    · have e2 := beq_eq_false_iff_ne.mpr e
      simp (maxSteps := 3000000) (disch := decide) only [↓psE, psO, forall_const, ↓iAdd, ↓iSub, ↓iMul, ↓iDiv, ↓iMod, ↓iPow, ↓iLt, ↓iLe, ↓iGt, ↓iGe, T.ne_Ratio_Vector, T.ne_Ratio_Poly, T.ne_Vector_Ratio, T.ne_Vector_Poly, T.ne_Poly_Ratio, T.ne_Poly_Vector, T.ne_Empty_ZeroBottom, T.ne_ZeroBottom_Empty, ↓reduceIte, Nat.reduceLeDiff, Nat.reduceLT, reduceCtorEq, isiInt, isiBool, isiStr, isiC, isiTup, isiLst, isiOr, nfC, inL, startP, startI, setAll, List.replicate, Nat.reduceSub, Nat.reduceAdd, List.length_map, Int.natCast_inj, Int.toNat_natCast, Int.zero_add, toD_lst, toD_tup, shaped_lst, shaped_tup, eqv_lst, eqv_tup, toD_nil, shaped_nil, eqv_nil, List.length_set, List.length_range, rangeP_len, ixN_0, ↓i_veq, ↓i_law_truth, e, e2]
      exact ⟨⟨by omega, by omega⟩, ⟨by omega, by omega⟩, h⟩

theorem ok_law_refusal (T : Txt K mg a) (S : Fs K a d) : FnOk P w K mg base (L2.CX P w) 6 a.f_law_refusal d.d_law_refusal ["tops", "bottom", "road"] (spP K (P_law_refusal a)) := by
  refine fa_q (k := 5) S.F_law_refusal sc_law_refusal (len_law_refusal a) (fun cdv A outer s H E hr =>
    (jss_cons (js_set 3 sc_law_refusal.nd (je_lst ja_nil))
      (jss_cut (js_tryN sc_law_refusal.nd (takes_of rfl rfl rfl rfl) (fun W1 pn xe tk1 hp1 => (jss_cut (js_if (jt_eq (je_var 2) je_int) (jss_one (js_expr (je_make T.mk_Vector (ok_Vector_init T S) (hr.mono (by decide)) T.mg_Vector S.B_Vector_init .nil (fun _ => .nil) (tkOf tk1) (ja_cons (je_list T.b_list (ja_cons (je_var 0) ja_nil)) (ja_cons (je_var 1) ja_nil))))) jss_nil)
      (jss_cut (js_if (jt_eq (je_var 2) je_int) (jss_one (js_expr (je_stat T.mg_Vector T.st_Vector_of S.F_Vector_of.kp (ok_Vector_of T S) (hr.mono (by decide)) S.B_Vector_of .nil (fun _ => .nil) (tkOf tk1) (ja_cons (je_lst ja_nil) ja_nil)))) jss_nil)
      (jss_cut (js_if (jt_eq (je_var 2) je_int) (jss_one (js_expr (je_make T.mk_Vector (ok_Vector_init T S) (hr.mono (by decide)) T.mg_Vector S.B_Vector_init .nil (fun _ => .nil) (tkOf tk1) (ja_cons (je_tuple T.b_tuple (ja_cons (je_var 0) ja_nil)) (ja_cons (je_var 1) ja_nil))))) jss_nil)
      (jss_one (js_if (jt_eq (je_var 2) je_int) (jss_one (js_expr (je_stat T.mg_Vector T.st_Vector_of S.F_Vector_of.kp (ok_Vector_of T S) (hr.mono (by decide)) S.B_Vector_of .nil (fun _ => .nil) (tkOf tk1) (ja_cons (je_tup ja_nil) ja_nil)))) jss_nil))))))
        (.cons (r := fun C => if C = a.C_Empty then some true else if C = a.C_ZeroBottom then some false else none) (i := 4) ⟨rfl, by decide, .inl T.mg_Empty⟩ (fun C b h => by by_cases h0 : C = a.C_Empty; (rw [if_pos h0] at h; cases h; subst h0; exact T.xm_Empty_Empty); rw [if_neg h0] at h; by_cases h1 : C = a.C_ZeroBottom; (rw [if_pos h1] at h; cases h; subst h1; exact T.xm_ZeroBottom_Empty); rw [if_neg h1] at h; cases h) rfl rfl (fun xa oe cls xd pn hz hf => (jss_one (js_set 3 sc_law_refusal.nd (je_lst (ja_cons je_str (ja_cons (je_xf 4 (ok := fun C => decide (C = a.C_Empty)) (fun C h => by have h := of_decide_eq_true h; subst h; exact ⟨T.xf_Empty, T.na_Empty_word⟩) hz hf) (ja_cons (je_xiC 4 (r := fun C => if C = a.C_Empty then some true else none) (fun C b h => by obtain ⟨rfl, rfl⟩ := one_c h; exact ⟨T.xc_Empty, T.xk_Empty_LastrowsError⟩) T.b_isinstance hz hf T.mg_LastrowsError) (ja_cons (je_xiT 4 (r := fun C => if C = a.C_Empty then some true else none) (fun C b h => by obtain ⟨rfl, rfl⟩ := one_c h; exact ⟨T.xc_Empty, T.xk_Empty_ValueError⟩) T.b_isinstance hz hf T.b_ValueError) (ja_cons (je_xiC 4 (r := fun C => if C = a.C_Empty then some false else none) (fun C b h => by obtain ⟨rfl, rfl⟩ := one_c h; exact ⟨T.xc_Empty, T.xk_Empty_ZeroBottom⟩) T.b_isinstance hz hf T.mg_ZeroBottom) (ja_cons (je_xiC 4 (r := fun C => if C = a.C_Empty then some false else none) (fun C b h => by obtain ⟨rfl, rfl⟩ := one_c h; exact ⟨T.xc_Empty, T.xk_Empty_BadText⟩) T.b_isinstance hz hf T.mg_BadText) ja_nil)))))))))) (.cons (r := fun C => if C = a.C_Empty then some false else if C = a.C_ZeroBottom then some true else none) (i := 4) ⟨rfl, by decide, .inl T.mg_ZeroBottom⟩ (fun C b h => by by_cases h0 : C = a.C_Empty; (rw [if_pos h0] at h; cases h; subst h0; exact T.xm_Empty_ZeroBottom); rw [if_neg h0] at h; by_cases h1 : C = a.C_ZeroBottom; (rw [if_pos h1] at h; cases h; subst h1; exact T.xm_ZeroBottom_ZeroBottom); rw [if_neg h1] at h; cases h) rfl rfl (fun xa oe cls xd pn hz hf => (jss_one (js_set 3 sc_law_refusal.nd (je_lst (ja_cons je_str (ja_cons (je_xf 4 (ok := fun C => decide (C = a.C_ZeroBottom)) (fun C h => by have h := of_decide_eq_true h; subst h; exact ⟨T.xf_ZeroBottom, T.na_ZeroBottom_word⟩) hz hf) (ja_cons (je_xiC 4 (r := fun C => if C = a.C_ZeroBottom then some true else none) (fun C b h => by obtain ⟨rfl, rfl⟩ := one_c h; exact ⟨T.xc_ZeroBottom, T.xk_ZeroBottom_LastrowsError⟩) T.b_isinstance hz hf T.mg_LastrowsError) (ja_cons (je_xiT 4 (r := fun C => if C = a.C_ZeroBottom then some true else none) (fun C b h => by obtain ⟨rfl, rfl⟩ := one_c h; exact ⟨T.xc_ZeroBottom, T.xk_ZeroBottom_ValueError⟩) T.b_isinstance hz hf T.b_ValueError) (ja_cons (je_xiC 4 (r := fun C => if C = a.C_ZeroBottom then some false else none) (fun C b h => by obtain ⟨rfl, rfl⟩ := one_c h; exact ⟨T.xc_ZeroBottom, T.xk_ZeroBottom_Empty⟩) T.b_isinstance hz hf T.mg_Empty) (ja_cons (je_xiC 4 (r := fun C => if C = a.C_ZeroBottom then some false else none) (fun C b h => by obtain ⟨rfl, rfl⟩ := one_c h; exact ⟨T.xc_ZeroBottom, T.xk_ZeroBottom_BadText⟩) T.b_isinstance hz hf T.mg_BadText) ja_nil)))))))))) .nil)))
      (jss_one (js_ret (je_var 3)))))) ?pure
  case pure =>
    rintro xs y Q ⟨ts, b, r, rfl, ⟨hl, sb, r0, r3⟩, h1, h2, h3, h4⟩
    have g0 : GoodR [] := ⟨by decide, fun _ z => nomatch z⟩
    simp (maxSteps := 3000000) (disch := decide) only [↓psE, psO, forall_const, ↓iAdd, ↓iSub, ↓iMul, ↓iDiv, ↓iMod, ↓iPow, ↓iLt, ↓iLe, ↓iGt, ↓iGe, T.ne_Ratio_Vector, T.ne_Ratio_Poly, T.ne_Vector_Ratio, T.ne_Vector_Poly, T.ne_Poly_Ratio, T.ne_Poly_Vector, T.ne_Empty_ZeroBottom, T.ne_ZeroBottom_Empty, ↓reduceIte, Nat.reduceLeDiff, Nat.reduceLT, reduceCtorEq, isiInt, isiBool, isiStr, isiC, isiTup, isiLst, isiOr, nfC, inL, startP, startI, setAll, List.replicate, Nat.reduceSub, Nat.reduceAdd, List.length_map, Int.natCast_inj, Int.toNat_natCast, Int.zero_add, toD_lst, toD_tup, shaped_lst, shaped_tup, eqv_lst, eqv_tup, toD_nil, shaped_nil, eqv_nil, List.length_set, List.length_range, rangeP_len, ixN_0]
    refine cutS [3, 4] (fun vs => ∃ (x : PV), vs = [some (.pv x), none] ∧ Q x) ?_ ?_
    · rcases (show r = 0 ∨ r = 1 ∨ r = 2 ∨ r = 3 by omega) with rfl | rfl | rfl | rfl
      · simp (maxSteps := 3000000) (disch := decide) only [↓psE, psO, forall_const, ↓iAdd, ↓iSub, ↓iMul, ↓iDiv, ↓iMod, ↓iPow, ↓iLt, ↓iLe, ↓iGt, ↓iGe, T.ne_Ratio_Vector, T.ne_Ratio_Poly, T.ne_Vector_Ratio, T.ne_Vector_Poly, T.ne_Poly_Ratio, T.ne_Poly_Vector, T.ne_Empty_ZeroBottom, T.ne_ZeroBottom_Empty, ↓reduceIte, Nat.reduceLeDiff, Nat.reduceLT, reduceCtorEq, isiInt, isiBool, isiStr, isiC, isiTup, isiLst, isiOr, nfC, inL, startP, startI, setAll, List.replicate, Nat.reduceSub, Nat.reduceAdd, List.length_map, Int.natCast_inj, Int.toNat_natCast, Int.zero_add, toD_lst, toD_tup, shaped_lst, shaped_tup, eqv_lst, eqv_tup, toD_nil, shaped_nil, eqv_nil, List.length_set, List.length_range, rangeP_len, ixN_0]
        refine cutS [] (fun vs => vs = [] ∧ ts ≠ [] ∧ b ≠ 0) ?_ ?_
        · simp (maxSteps := 3000000) (disch := decide) only [↓psE, psO, forall_const, ↓iAdd, ↓iSub, ↓iMul, ↓iDiv, ↓iMod, ↓iPow, ↓iLt, ↓iLe, ↓iGt, ↓iGe, T.ne_Ratio_Vector, T.ne_Ratio_Poly, T.ne_Vector_Ratio, T.ne_Vector_Poly, T.ne_Poly_Ratio, T.ne_Poly_Vector, T.ne_Empty_ZeroBottom, T.ne_ZeroBottom_Empty, ↓reduceIte, Nat.reduceLeDiff, Nat.reduceLT, reduceCtorEq, isiInt, isiBool, isiStr, isiC, isiTup, isiLst, isiOr, nfC, inL, startP, startI, setAll, List.replicate, Nat.reduceSub, Nat.reduceAdd, List.length_map, Int.natCast_inj, Int.toNat_natCast, Int.zero_add, toD_lst, toD_tup, shaped_lst, shaped_tup, eqv_lst, eqv_tup, toD_nil, shaped_nil, eqv_nil, List.length_set, List.length_range, rangeP_len, ixN_0, ↓i_initL, ez, zb]
          exact ⟨fun e => ⟨[_, _], ⟨_, rfl, h1 (.inl e)⟩, rfl⟩, fun e e2 => ⟨[_, _], ⟨_, rfl, h2 e rfl e2⟩, rfl⟩, fun e e2 => ⟨⟨by omega, sb.mono (by decide)⟩, ⟨[], ⟨rfl, e, e2⟩, rfl⟩⟩⟩
        · rintro vs ⟨rfl, e, e2⟩
          refine cutS [] (fun vs => vs = []) (by simp (maxSteps := 3000000) (disch := decide) only [↓psE, psO, forall_const, ↓iAdd, ↓iSub, ↓iMul, ↓iDiv, ↓iMod, ↓iPow, ↓iLt, ↓iLe, ↓iGt, ↓iGe, T.ne_Ratio_Vector, T.ne_Ratio_Poly, T.ne_Vector_Ratio, T.ne_Vector_Poly, T.ne_Poly_Ratio, T.ne_Poly_Vector, T.ne_Empty_ZeroBottom, T.ne_ZeroBottom_Empty, ↓reduceIte, Nat.reduceLeDiff, Nat.reduceLT, reduceCtorEq, isiInt, isiBool, isiStr, isiC, isiTup, isiLst, isiOr, nfC, inL, startP, startI, setAll, List.replicate, Nat.reduceSub, Nat.reduceAdd, List.length_map, Int.natCast_inj, Int.toNat_natCast, Int.zero_add, toD_lst, toD_tup, shaped_lst, shaped_tup, eqv_lst, eqv_tup, toD_nil, shaped_nil, eqv_nil, List.length_set, List.length_range, rangeP_len, ixN_0]; exact ⟨[], rfl, rfl⟩) ?_
          rintro vs rfl
          refine cutS [] (fun vs => vs = []) (by simp (maxSteps := 3000000) (disch := decide) only [↓psE, psO, forall_const, ↓iAdd, ↓iSub, ↓iMul, ↓iDiv, ↓iMod, ↓iPow, ↓iLt, ↓iLe, ↓iGt, ↓iGe, T.ne_Ratio_Vector, T.ne_Ratio_Poly, T.ne_Vector_Ratio, T.ne_Vector_Poly, T.ne_Poly_Ratio, T.ne_Poly_Vector, T.ne_Empty_ZeroBottom, T.ne_ZeroBottom_Empty, ↓reduceIte, Nat.reduceLeDiff, Nat.reduceLT, reduceCtorEq, isiInt, isiBool, isiStr, isiC, isiTup, isiLst, isiOr, nfC, inL, startP, startI, setAll, List.replicate, Nat.reduceSub, Nat.reduceAdd, List.length_map, Int.natCast_inj, Int.toNat_natCast, Int.zero_add, toD_lst, toD_tup, shaped_lst, shaped_tup, eqv_lst, eqv_tup, toD_nil, shaped_nil, eqv_nil, List.length_set, List.length_range, rangeP_len, ixN_0]; exact ⟨[], rfl, rfl⟩) ?_
          rintro vs rfl
          simp (maxSteps := 3000000) (disch := decide) only [↓psE, psO, forall_const, ↓iAdd, ↓iSub, ↓iMul, ↓iDiv, ↓iMod, ↓iPow, ↓iLt, ↓iLe, ↓iGt, ↓iGe, T.ne_Ratio_Vector, T.ne_Ratio_Poly, T.ne_Vector_Ratio, T.ne_Vector_Poly, T.ne_Poly_Ratio, T.ne_Poly_Vector, T.ne_Empty_ZeroBottom, T.ne_ZeroBottom_Empty, ↓reduceIte, Nat.reduceLeDiff, Nat.reduceLT, reduceCtorEq, isiInt, isiBool, isiStr, isiC, isiTup, isiLst, isiOr, nfC, inL, startP, startI, setAll, List.replicate, Nat.reduceSub, Nat.reduceAdd, List.length_map, Int.natCast_inj, Int.toNat_natCast, Int.zero_add, toD_lst, toD_tup, shaped_lst, shaped_tup, eqv_lst, eqv_tup, toD_nil, shaped_nil, eqv_nil, List.length_set, List.length_range, rangeP_len, ixN_0]
          exact ⟨[_, _], ⟨_, rfl, h3 e rfl e2⟩, rfl⟩
      · refine cutS [] (fun vs => vs = []) (by simp (maxSteps := 3000000) (disch := decide) only [↓psE, psO, forall_const, ↓iAdd, ↓iSub, ↓iMul, ↓iDiv, ↓iMod, ↓iPow, ↓iLt, ↓iLe, ↓iGt, ↓iGe, T.ne_Ratio_Vector, T.ne_Ratio_Poly, T.ne_Vector_Ratio, T.ne_Vector_Poly, T.ne_Poly_Ratio, T.ne_Poly_Vector, T.ne_Empty_ZeroBottom, T.ne_ZeroBottom_Empty, ↓reduceIte, Nat.reduceLeDiff, Nat.reduceLT, reduceCtorEq, isiInt, isiBool, isiStr, isiC, isiTup, isiLst, isiOr, nfC, inL, startP, startI, setAll, List.replicate, Nat.reduceSub, Nat.reduceAdd, List.length_map, Int.natCast_inj, Int.toNat_natCast, Int.zero_add, toD_lst, toD_tup, shaped_lst, shaped_tup, eqv_lst, eqv_tup, toD_nil, shaped_nil, eqv_nil, List.length_set, List.length_range, rangeP_len, ixN_0]; exact ⟨[], rfl, rfl⟩) ?_
        rintro vs rfl
        refine cutS [] (fun vs => False) ?_ (fun _ z => z.elim)
        simp (maxSteps := 3000000) (disch := decide) only [↓psE, psO, forall_const, ↓iAdd, ↓iSub, ↓iMul, ↓iDiv, ↓iMod, ↓iPow, ↓iLt, ↓iLe, ↓iGt, ↓iGe, T.ne_Ratio_Vector, T.ne_Ratio_Poly, T.ne_Vector_Ratio, T.ne_Vector_Poly, T.ne_Poly_Ratio, T.ne_Poly_Vector, T.ne_Empty_ZeroBottom, T.ne_ZeroBottom_Empty, ↓reduceIte, Nat.reduceLeDiff, Nat.reduceLT, reduceCtorEq, isiInt, isiBool, isiStr, isiC, isiTup, isiLst, isiOr, nfC, inL, startP, startI, setAll, List.replicate, Nat.reduceSub, Nat.reduceAdd, List.length_map, Int.natCast_inj, Int.toNat_natCast, Int.zero_add, toD_lst, toD_tup, shaped_lst, shaped_tup, eqv_lst, eqv_tup, toD_nil, shaped_nil, eqv_nil, List.length_set, List.length_range, rangeP_len, ixN_0, ↓i_Vector_of, ez]
        exact ⟨[], .inl rfl, g0, fun _ => ⟨[_, _], ⟨_, rfl, h1 (.inr (.inl rfl))⟩, rfl⟩, fun z => absurd rfl z⟩
      · refine cutS [] (fun vs => vs = []) (by simp (maxSteps := 3000000) (disch := decide) only [↓psE, psO, forall_const, ↓iAdd, ↓iSub, ↓iMul, ↓iDiv, ↓iMod, ↓iPow, ↓iLt, ↓iLe, ↓iGt, ↓iGe, T.ne_Ratio_Vector, T.ne_Ratio_Poly, T.ne_Vector_Ratio, T.ne_Vector_Poly, T.ne_Poly_Ratio, T.ne_Poly_Vector, T.ne_Empty_ZeroBottom, T.ne_ZeroBottom_Empty, ↓reduceIte, Nat.reduceLeDiff, Nat.reduceLT, reduceCtorEq, isiInt, isiBool, isiStr, isiC, isiTup, isiLst, isiOr, nfC, inL, startP, startI, setAll, List.replicate, Nat.reduceSub, Nat.reduceAdd, List.length_map, Int.natCast_inj, Int.toNat_natCast, Int.zero_add, toD_lst, toD_tup, shaped_lst, shaped_tup, eqv_lst, eqv_tup, toD_nil, shaped_nil, eqv_nil, List.length_set, List.length_range, rangeP_len, ixN_0]; exact ⟨[], rfl, rfl⟩) ?_
        rintro vs rfl
        refine cutS [] (fun vs => vs = []) (by simp (maxSteps := 3000000) (disch := decide) only [↓psE, psO, forall_const, ↓iAdd, ↓iSub, ↓iMul, ↓iDiv, ↓iMod, ↓iPow, ↓iLt, ↓iLe, ↓iGt, ↓iGe, T.ne_Ratio_Vector, T.ne_Ratio_Poly, T.ne_Vector_Ratio, T.ne_Vector_Poly, T.ne_Poly_Ratio, T.ne_Poly_Vector, T.ne_Empty_ZeroBottom, T.ne_ZeroBottom_Empty, ↓reduceIte, Nat.reduceLeDiff, Nat.reduceLT, reduceCtorEq, isiInt, isiBool, isiStr, isiC, isiTup, isiLst, isiOr, nfC, inL, startP, startI, setAll, List.replicate, Nat.reduceSub, Nat.reduceAdd, List.length_map, Int.natCast_inj, Int.toNat_natCast, Int.zero_add, toD_lst, toD_tup, shaped_lst, shaped_tup, eqv_lst, eqv_tup, toD_nil, shaped_nil, eqv_nil, List.length_set, List.length_range, rangeP_len, ixN_0]; exact ⟨[], rfl, rfl⟩) ?_
        rintro vs rfl
        have e : ts = [] := h4.resolve_right fun z => z rfl
        subst e
        refine cutS [] (fun vs => False) ?_ (fun _ z => z.elim)
        simp (maxSteps := 3000000) (disch := decide) only [↓psE, psO, forall_const, ↓iAdd, ↓iSub, ↓iMul, ↓iDiv, ↓iMod, ↓iPow, ↓iLt, ↓iLe, ↓iGt, ↓iGe, T.ne_Ratio_Vector, T.ne_Ratio_Poly, T.ne_Vector_Ratio, T.ne_Vector_Poly, T.ne_Poly_Ratio, T.ne_Poly_Vector, T.ne_Empty_ZeroBottom, T.ne_ZeroBottom_Empty, ↓reduceIte, Nat.reduceLeDiff, Nat.reduceLT, reduceCtorEq, isiInt, isiBool, isiStr, isiC, isiTup, isiLst, isiOr, nfC, inL, startP, startI, setAll, List.replicate, Nat.reduceSub, Nat.reduceAdd, List.length_map, Int.natCast_inj, Int.toNat_natCast, Int.zero_add, toD_lst, toD_tup, shaped_lst, shaped_tup, eqv_lst, eqv_tup, toD_nil, shaped_nil, eqv_nil, List.length_set, List.length_range, rangeP_len, ixN_0]
        exact ⟨[], b, _, rfl, .inr rfl, fun _ => by simp (maxSteps := 3000000) (disch := decide) only [↓psE, psO, forall_const, ↓iAdd, ↓iSub, ↓iMul, ↓iDiv, ↓iMod, ↓iPow, ↓iLt, ↓iLe, ↓iGt, ↓iGe, T.ne_Ratio_Vector, T.ne_Ratio_Poly, T.ne_Vector_Ratio, T.ne_Vector_Poly, T.ne_Poly_Ratio, T.ne_Poly_Vector, T.ne_Empty_ZeroBottom, T.ne_ZeroBottom_Empty, ↓reduceIte, Nat.reduceLeDiff, Nat.reduceLT, reduceCtorEq, isiInt, isiBool, isiStr, isiC, isiTup, isiLst, isiOr, nfC, inL, startP, startI, setAll, List.replicate, Nat.reduceSub, Nat.reduceAdd, List.length_map, Int.natCast_inj, Int.toNat_natCast, Int.zero_add, toD_lst, toD_tup, shaped_lst, shaped_tup, eqv_lst, eqv_tup, toD_nil, shaped_nil, eqv_nil, List.length_set, List.length_range, rangeP_len, ixN_0, ez]; exact ⟨[_, _], ⟨_, rfl, h1 (.inl rfl)⟩, rfl⟩, fun z => absurd rfl z, fun z => absurd rfl z⟩
      · refine cutS [] (fun vs => vs = []) (by simp (maxSteps := 3000000) (disch := decide) only [↓psE, psO, forall_const, ↓iAdd, ↓iSub, ↓iMul, ↓iDiv, ↓iMod, ↓iPow, ↓iLt, ↓iLe, ↓iGt, ↓iGe, T.ne_Ratio_Vector, T.ne_Ratio_Poly, T.ne_Vector_Ratio, T.ne_Vector_Poly, T.ne_Poly_Ratio, T.ne_Poly_Vector, T.ne_Empty_ZeroBottom, T.ne_ZeroBottom_Empty, ↓reduceIte, Nat.reduceLeDiff, Nat.reduceLT, reduceCtorEq, isiInt, isiBool, isiStr, isiC, isiTup, isiLst, isiOr, nfC, inL, startP, startI, setAll, List.replicate, Nat.reduceSub, Nat.reduceAdd, List.length_map, Int.natCast_inj, Int.toNat_natCast, Int.zero_add, toD_lst, toD_tup, shaped_lst, shaped_tup, eqv_lst, eqv_tup, toD_nil, shaped_nil, eqv_nil, List.length_set, List.length_range, rangeP_len, ixN_0]; exact ⟨[], rfl, rfl⟩) ?_
        rintro vs rfl
        refine cutS [] (fun vs => vs = []) (by simp (maxSteps := 3000000) (disch := decide) only [↓psE, psO, forall_const, ↓iAdd, ↓iSub, ↓iMul, ↓iDiv, ↓iMod, ↓iPow, ↓iLt, ↓iLe, ↓iGt, ↓iGe, T.ne_Ratio_Vector, T.ne_Ratio_Poly, T.ne_Vector_Ratio, T.ne_Vector_Poly, T.ne_Poly_Ratio, T.ne_Poly_Vector, T.ne_Empty_ZeroBottom, T.ne_ZeroBottom_Empty, ↓reduceIte, Nat.reduceLeDiff, Nat.reduceLT, reduceCtorEq, isiInt, isiBool, isiStr, isiC, isiTup, isiLst, isiOr, nfC, inL, startP, startI, setAll, List.replicate, Nat.reduceSub, Nat.reduceAdd, List.length_map, Int.natCast_inj, Int.toNat_natCast, Int.zero_add, toD_lst, toD_tup, shaped_lst, shaped_tup, eqv_lst, eqv_tup, toD_nil, shaped_nil, eqv_nil, List.length_set, List.length_range, rangeP_len, ixN_0]; exact ⟨[], rfl, rfl⟩) ?_
        rintro vs rfl
        refine cutS [] (fun vs => vs = []) (by simp (maxSteps := 3000000) (disch := decide) only [↓psE, psO, forall_const, ↓iAdd, ↓iSub, ↓iMul, ↓iDiv, ↓iMod, ↓iPow, ↓iLt, ↓iLe, ↓iGt, ↓iGe, T.ne_Ratio_Vector, T.ne_Ratio_Poly, T.ne_Vector_Ratio, T.ne_Vector_Poly, T.ne_Poly_Ratio, T.ne_Poly_Vector, T.ne_Empty_ZeroBottom, T.ne_ZeroBottom_Empty, ↓reduceIte, Nat.reduceLeDiff, Nat.reduceLT, reduceCtorEq, isiInt, isiBool, isiStr, isiC, isiTup, isiLst, isiOr, nfC, inL, startP, startI, setAll, List.replicate, Nat.reduceSub, Nat.reduceAdd, List.length_map, Int.natCast_inj, Int.toNat_natCast, Int.zero_add, toD_lst, toD_tup, shaped_lst, shaped_tup, eqv_lst, eqv_tup, toD_nil, shaped_nil, eqv_nil, List.length_set, List.length_range, rangeP_len, ixN_0]; exact ⟨[], rfl, rfl⟩) ?_
        rintro vs rfl
        simp (maxSteps := 3000000) (disch := decide) only [↓psE, psO, forall_const, ↓iAdd, ↓iSub, ↓iMul, ↓iDiv, ↓iMod, ↓iPow, ↓iLt, ↓iLe, ↓iGt, ↓iGe, T.ne_Ratio_Vector, T.ne_Ratio_Poly, T.ne_Vector_Ratio, T.ne_Vector_Poly, T.ne_Poly_Ratio, T.ne_Poly_Vector, T.ne_Empty_ZeroBottom, T.ne_ZeroBottom_Empty, ↓reduceIte, Nat.reduceLeDiff, Nat.reduceLT, reduceCtorEq, isiInt, isiBool, isiStr, isiC, isiTup, isiLst, isiOr, nfC, inL, startP, startI, setAll, List.replicate, Nat.reduceSub, Nat.reduceAdd, List.length_map, Int.natCast_inj, Int.toNat_natCast, Int.zero_add, toD_lst, toD_tup, shaped_lst, shaped_tup, eqv_lst, eqv_tup, toD_nil, shaped_nil, eqv_nil, List.length_set, List.length_range, rangeP_len, ixN_0, ↓i_Vector_of, ez]
        exact ⟨[], .inr rfl, g0, fun _ => ⟨[_, _], ⟨_, rfl, h1 (.inr (.inr rfl))⟩, rfl⟩, fun z => absurd rfl z⟩
    · rintro vs ⟨x, rfl, hq⟩
      simp (maxSteps := 3000000) (disch := decide) only [↓psE, psO, forall_const, ↓iAdd, ↓iSub, ↓iMul, ↓iDiv, ↓iMod, ↓iPow, ↓iLt, ↓iLe, ↓iGt, ↓iGe, T.ne_Ratio_Vector, T.ne_Ratio_Poly, T.ne_Vector_Ratio, T.ne_Vector_Poly, T.ne_Poly_Ratio, T.ne_Poly_Vector, T.ne_Empty_ZeroBottom, T.ne_ZeroBottom_Empty, ↓reduceIte, Nat.reduceLeDiff, Nat.reduceLT, reduceCtorEq, isiInt, isiBool, isiStr, isiC, isiTup, isiLst, isiOr, nfC, inL, startP, startI, setAll, List.replicate, Nat.reduceSub, Nat.reduceAdd, List.length_map, Int.natCast_inj, Int.toNat_natCast, Int.zero_add, toD_lst, toD_tup, shaped_lst, shaped_tup, eqv_lst, eqv_tup, toD_nil, shaped_nil, eqv_nil, List.length_set, List.length_range, rangeP_len, ixN_0]
      exact hq

theorem ok_law_refusals (T : Txt K mg a) (S : Fs K a d) : FnOk P w K mg base (L2.CX P w) 7 a.f_law_refusals d.d_law_refusals ["thing"] (spP K (P_law_refusals a)) := by
  refine fa_q (k := 6) S.F_law_refusals sc_law_refusals (len_law_refusals a) (fun cdv A outer s H E hr =>
    (jss_cons (js_set 1 sc_law_refusals.nd (je_lst (ja_cons je_str (ja_cons je_str (ja_cons je_bl (ja_cons je_bl (ja_cons je_bl (ja_cons je_bl ja_nil))))))))
      (jss_cut (js_forL 2 (passes_of rfl) rfl sc_law_refusals.nd (je_lst (ja_cons je_int (ja_cons je_int (ja_cons (je_ix (je_var 0) je_int) ja_nil))))
        (jss_one (js_if (jt_w (jw_or (jt_neD hr (je_call (ok_law_refusal T S) (hr.mono (by decide)) T.mg_law_refusal S.F_law_refusal.kp S.B_law_refusal .nil (fun _ => .nil) (tkOf (takes_of rfl rfl rfl rfl)) (ja_cons (je_lst ja_nil) (ja_cons (je_var 2) (ja_cons je_int ja_nil)))) (je_var 1)) (jw_or1 (jt_neD hr (je_call (ok_law_refusal T S) (hr.mono (by decide)) T.mg_law_refusal S.F_law_refusal.kp S.B_law_refusal .nil (fun _ => .nil) (tkOf (takes_of rfl rfl rfl rfl)) (ja_cons (je_lst ja_nil) (ja_cons (je_var 2) (ja_cons je_int ja_nil)))) (je_var 1))))) (jss_one (js_ret je_bl)) jss_nil)))
      (jss_cons (js_if (jt_w (jw_or (jt_neD hr (je_call (ok_law_refusal T S) (hr.mono (by decide)) T.mg_law_refusal S.F_law_refusal.kp S.B_law_refusal .nil (fun _ => .nil) (tkOf (takes_of rfl rfl rfl rfl)) (ja_cons (je_lst ja_nil) (ja_cons je_int (ja_cons je_int ja_nil)))) (je_var 1)) (jw_or (jt_neD hr (je_call (ok_law_refusal T S) (hr.mono (by decide)) T.mg_law_refusal S.F_law_refusal.kp S.B_law_refusal .nil (fun _ => .nil) (tkOf (takes_of rfl rfl rfl rfl)) (ja_cons (je_lst ja_nil) (ja_cons je_int (ja_cons je_int ja_nil)))) (je_var 1)) (jw_or1 (jt_neD hr (je_call (ok_law_refusal T S) (hr.mono (by decide)) T.mg_law_refusal S.F_law_refusal.kp S.B_law_refusal .nil (fun _ => .nil) (tkOf (takes_of rfl rfl rfl rfl)) (ja_cons (je_ix (je_var 0) je_int) (ja_cons (je_ix (je_var 0) je_int) (ja_cons je_int ja_nil)))) (je_lst ja_nil)))))) (jss_one (js_ret je_bl)) jss_nil)
      (jss_one (js_ret (je_eqD hr (je_call (ok_law_refusal T S) (hr.mono (by decide)) T.mg_law_refusal S.F_law_refusal.kp S.B_law_refusal .nil (fun _ => .nil) (tkOf (takes_of rfl rfl rfl rfl)) (ja_cons (je_ix (je_var 0) je_int) (ja_cons je_int (ja_cons je_int ja_nil)))) (je_lst (ja_cons je_str (ja_cons je_str (ja_cons je_bl (ja_cons je_bl (ja_cons je_bl (ja_cons je_bl ja_nil)))))))))))))) ?pure
  case pure =>
    rintro xs y Q ⟨ts, b, rfl, ⟨h1, h2, h3, h4, h5⟩, h⟩
    have s0 : Sz 1000 0 := sz_small (by decide) (by decide) (by decide)
    have s1 : Sz 1000 1 := sz_small (by decide) (by decide) (by decide)
    have he : ∀ (b r : Int) (y : Y) (R : PV → Prop), Sz 1000 b → 0 ≤ r → r ≤ 3 → R emptyE → P_law_refusal a [.lst [], .int b, .int r] y R := fun b r y R h1 h2 h3 hR => ⟨[], b, r, rfl, ⟨by decide, h1, h2, h3⟩, fun _ => hR, fun z => absurd rfl z, fun z => absurd rfl z, .inl rfl⟩
    simp (maxSteps := 3000000) (disch := decide) only [↓psE, psO, forall_const, ↓iAdd, ↓iSub, ↓iMul, ↓iDiv, ↓iMod, ↓iPow, ↓iLt, ↓iLe, ↓iGt, ↓iGe, T.ne_Ratio_Vector, T.ne_Ratio_Poly, T.ne_Vector_Ratio, T.ne_Vector_Poly, T.ne_Poly_Ratio, T.ne_Poly_Vector, T.ne_Empty_ZeroBottom, T.ne_ZeroBottom_Empty, ↓reduceIte, Nat.reduceLeDiff, Nat.reduceLT, reduceCtorEq, isiInt, isiBool, isiStr, isiC, isiTup, isiLst, isiOr, nfC, inL, startP, startI, setAll, List.replicate, Nat.reduceSub, Nat.reduceAdd, List.length_map, Int.natCast_inj, Int.toNat_natCast, Int.zero_add, toD_lst, toD_tup, shaped_lst, shaped_tup, eqv_lst, eqv_tup, toD_nil, shaped_nil, eqv_nil, List.length_set, List.length_range, rangeP_len, ixN_0]
    refine cutS [2] (fun vs => ∃ v, vs = [v]) ?_ ?_
    · simp (maxSteps := 3000000) (disch := decide) only [↓psE, psO, forall_const, ↓iAdd, ↓iSub, ↓iMul, ↓iDiv, ↓iMod, ↓iPow, ↓iLt, ↓iLe, ↓iGt, ↓iGe, T.ne_Ratio_Vector, T.ne_Ratio_Poly, T.ne_Vector_Ratio, T.ne_Vector_Poly, T.ne_Poly_Ratio, T.ne_Poly_Vector, T.ne_Empty_ZeroBottom, T.ne_ZeroBottom_Empty, ↓reduceIte, Nat.reduceLeDiff, Nat.reduceLT, reduceCtorEq, isiInt, isiBool, isiStr, isiC, isiTup, isiLst, isiOr, nfC, inL, startP, startI, setAll, List.replicate, Nat.reduceSub, Nat.reduceAdd, List.length_map, Int.natCast_inj, Int.toNat_natCast, Int.zero_add, toD_lst, toD_tup, shaped_lst, shaped_tup, eqv_lst, eqv_tup, toD_nil, shaped_nil, eqv_nil, List.length_set, List.length_range, rangeP_len, ixN_0, ↓qLoop_cons, ↓qLoop_nil]
      have st : ∀ (b r : Int) (S : Prop) (R : Bool → Prop), Sz 1000 b → 0 ≤ r → r ≤ 3 → R true → P_law_refusal a [.lst [], .int b, .int r] y fun x => match toD x, toD emptyE with
        | some d, some e => SeqAt.shaped d = true ∧ SeqAt.shaped e = true ∧ R (d.eqv e)
        | _, _ => False := fun b r S R h1 h2 h3 hR => he b r y _ h1 h2 h3 (by
          simp (maxSteps := 3000000) (disch := decide) only [↓psE, psO, forall_const, ↓iAdd, ↓iSub, ↓iMul, ↓iDiv, ↓iMod, ↓iPow, ↓iLt, ↓iLe, ↓iGt, ↓iGe, T.ne_Ratio_Vector, T.ne_Ratio_Poly, T.ne_Vector_Ratio, T.ne_Vector_Poly, T.ne_Poly_Ratio, T.ne_Poly_Vector, T.ne_Empty_ZeroBottom, T.ne_ZeroBottom_Empty, ↓reduceIte, Nat.reduceLeDiff, Nat.reduceLT, reduceCtorEq, isiInt, isiBool, isiStr, isiC, isiTup, isiLst, isiOr, nfC, inL, startP, startI, setAll, List.replicate, Nat.reduceSub, Nat.reduceAdd, List.length_map, Int.natCast_inj, Int.toNat_natCast, Int.zero_add, toD_lst, toD_tup, shaped_lst, shaped_tup, eqv_lst, eqv_tup, toD_nil, shaped_nil, eqv_nil, List.length_set, List.length_range, rangeP_len, ixN_0, emptyE, toD, toDs]
          exact ⟨by decide +kernel, by decide +kernel, hR⟩)
      refine st 0 0 False (fun t => if t = false then Q (PV.bl false) else _) s0 (by decide) (by decide) ?_
      simp (maxSteps := 3000000) (disch := decide) only [↓psE, psO, forall_const, ↓iAdd, ↓iSub, ↓iMul, ↓iDiv, ↓iMod, ↓iPow, ↓iLt, ↓iLe, ↓iGt, ↓iGe, T.ne_Ratio_Vector, T.ne_Ratio_Poly, T.ne_Vector_Ratio, T.ne_Vector_Poly, T.ne_Poly_Ratio, T.ne_Poly_Vector, T.ne_Empty_ZeroBottom, T.ne_ZeroBottom_Empty, ↓reduceIte, Nat.reduceLeDiff, Nat.reduceLT, reduceCtorEq, isiInt, isiBool, isiStr, isiC, isiTup, isiLst, isiOr, nfC, inL, startP, startI, setAll, List.replicate, Nat.reduceSub, Nat.reduceAdd, List.length_map, Int.natCast_inj, Int.toNat_natCast, Int.zero_add, toD_lst, toD_tup, shaped_lst, shaped_tup, eqv_lst, eqv_tup, toD_nil, shaped_nil, eqv_nil, List.length_set, List.length_range, rangeP_len, ixN_0]
      refine st 0 2 False (fun t => if t = false then Q (PV.bl false) else _) s0 (by decide) (by decide) ?_
      simp (maxSteps := 3000000) (disch := decide) only [↓psE, psO, forall_const, ↓iAdd, ↓iSub, ↓iMul, ↓iDiv, ↓iMod, ↓iPow, ↓iLt, ↓iLe, ↓iGt, ↓iGe, T.ne_Ratio_Vector, T.ne_Ratio_Poly, T.ne_Vector_Ratio, T.ne_Vector_Poly, T.ne_Poly_Ratio, T.ne_Poly_Vector, T.ne_Empty_ZeroBottom, T.ne_ZeroBottom_Empty, ↓reduceIte, Nat.reduceLeDiff, Nat.reduceLT, reduceCtorEq, isiInt, isiBool, isiStr, isiC, isiTup, isiLst, isiOr, nfC, inL, startP, startI, setAll, List.replicate, Nat.reduceSub, Nat.reduceAdd, List.length_map, Int.natCast_inj, Int.toNat_natCast, Int.zero_add, toD_lst, toD_tup, shaped_lst, shaped_tup, eqv_lst, eqv_tup, toD_nil, shaped_nil, eqv_nil, List.length_set, List.length_range, rangeP_len, ixN_0]
      refine st 1 0 False (fun t => if t = false then Q (PV.bl false) else _) s1 (by decide) (by decide) ?_
      simp (maxSteps := 3000000) (disch := decide) only [↓psE, psO, forall_const, ↓iAdd, ↓iSub, ↓iMul, ↓iDiv, ↓iMod, ↓iPow, ↓iLt, ↓iLe, ↓iGt, ↓iGe, T.ne_Ratio_Vector, T.ne_Ratio_Poly, T.ne_Vector_Ratio, T.ne_Vector_Poly, T.ne_Poly_Ratio, T.ne_Poly_Vector, T.ne_Empty_ZeroBottom, T.ne_ZeroBottom_Empty, ↓reduceIte, Nat.reduceLeDiff, Nat.reduceLT, reduceCtorEq, isiInt, isiBool, isiStr, isiC, isiTup, isiLst, isiOr, nfC, inL, startP, startI, setAll, List.replicate, Nat.reduceSub, Nat.reduceAdd, List.length_map, Int.natCast_inj, Int.toNat_natCast, Int.zero_add, toD_lst, toD_tup, shaped_lst, shaped_tup, eqv_lst, eqv_tup, toD_nil, shaped_nil, eqv_nil, List.length_set, List.length_range, rangeP_len, ixN_0]
      refine st 1 2 False (fun t => if t = false then Q (PV.bl false) else _) s1 (by decide) (by decide) ?_
      simp (maxSteps := 3000000) (disch := decide) only [↓psE, psO, forall_const, ↓iAdd, ↓iSub, ↓iMul, ↓iDiv, ↓iMod, ↓iPow, ↓iLt, ↓iLe, ↓iGt, ↓iGe, T.ne_Ratio_Vector, T.ne_Ratio_Poly, T.ne_Vector_Ratio, T.ne_Vector_Poly, T.ne_Poly_Ratio, T.ne_Poly_Vector, T.ne_Empty_ZeroBottom, T.ne_ZeroBottom_Empty, ↓reduceIte, Nat.reduceLeDiff, Nat.reduceLT, reduceCtorEq, isiInt, isiBool, isiStr, isiC, isiTup, isiLst, isiOr, nfC, inL, startP, startI, setAll, List.replicate, Nat.reduceSub, Nat.reduceAdd, List.length_map, Int.natCast_inj, Int.toNat_natCast, Int.zero_add, toD_lst, toD_tup, shaped_lst, shaped_tup, eqv_lst, eqv_tup, toD_nil, shaped_nil, eqv_nil, List.length_set, List.length_range, rangeP_len, ixN_0]
      refine st b 0 False (fun t => if t = false then Q (PV.bl false) else _) h2 (by decide) (by decide) ?_
      simp (maxSteps := 3000000) (disch := decide) only [↓psE, psO, forall_const, ↓iAdd, ↓iSub, ↓iMul, ↓iDiv, ↓iMod, ↓iPow, ↓iLt, ↓iLe, ↓iGt, ↓iGe, T.ne_Ratio_Vector, T.ne_Ratio_Poly, T.ne_Vector_Ratio, T.ne_Vector_Poly, T.ne_Poly_Ratio, T.ne_Poly_Vector, T.ne_Empty_ZeroBottom, T.ne_ZeroBottom_Empty, ↓reduceIte, Nat.reduceLeDiff, Nat.reduceLT, reduceCtorEq, isiInt, isiBool, isiStr, isiC, isiTup, isiLst, isiOr, nfC, inL, startP, startI, setAll, List.replicate, Nat.reduceSub, Nat.reduceAdd, List.length_map, Int.natCast_inj, Int.toNat_natCast, Int.zero_add, toD_lst, toD_tup, shaped_lst, shaped_tup, eqv_lst, eqv_tup, toD_nil, shaped_nil, eqv_nil, List.length_set, List.length_range, rangeP_len, ixN_0]
      refine st b 2 False (fun t => if t = false then Q (PV.bl false) else _) h2 (by decide) (by decide) ?_
      simp (maxSteps := 3000000) (disch := decide) only [↓psE, psO, forall_const, ↓iAdd, ↓iSub, ↓iMul, ↓iDiv, ↓iMod, ↓iPow, ↓iLt, ↓iLe, ↓iGt, ↓iGe, T.ne_Ratio_Vector, T.ne_Ratio_Poly, T.ne_Vector_Ratio, T.ne_Vector_Poly, T.ne_Poly_Ratio, T.ne_Poly_Vector, T.ne_Empty_ZeroBottom, T.ne_ZeroBottom_Empty, ↓reduceIte, Nat.reduceLeDiff, Nat.reduceLT, reduceCtorEq, isiInt, isiBool, isiStr, isiC, isiTup, isiLst, isiOr, nfC, inL, startP, startI, setAll, List.replicate, Nat.reduceSub, Nat.reduceAdd, List.length_map, Int.natCast_inj, Int.toNat_natCast, Int.zero_add, toD_lst, toD_tup, shaped_lst, shaped_tup, eqv_lst, eqv_tup, toD_nil, shaped_nil, eqv_nil, List.length_set, List.length_range, rangeP_len, ixN_0]
      exact ⟨[_], ⟨_, rfl⟩, rfl⟩
    rintro vs ⟨v, rfl⟩
    simp (maxSteps := 3000000) (disch := decide) only [↓psE, psO, forall_const, ↓iAdd, ↓iSub, ↓iMul, ↓iDiv, ↓iMod, ↓iPow, ↓iLt, ↓iLe, ↓iGt, ↓iGe, T.ne_Ratio_Vector, T.ne_Ratio_Poly, T.ne_Vector_Ratio, T.ne_Vector_Poly, T.ne_Poly_Ratio, T.ne_Poly_Vector, T.ne_Empty_ZeroBottom, T.ne_ZeroBottom_Empty, ↓reduceIte, Nat.reduceLeDiff, Nat.reduceLT, reduceCtorEq, isiInt, isiBool, isiStr, isiC, isiTup, isiLst, isiOr, nfC, inL, startP, startI, setAll, List.replicate, Nat.reduceSub, Nat.reduceAdd, List.length_map, Int.natCast_inj, Int.toNat_natCast, Int.zero_add, toD_lst, toD_tup, shaped_lst, shaped_tup, eqv_lst, eqv_tup, toD_nil, shaped_nil, eqv_nil, List.length_set, List.length_range, rangeP_len, ixN_0]
    refine he 1 1 y _ s1 (by decide) (by decide) ?_
    simp (maxSteps := 3000000) (disch := decide) only [↓psE, psO, forall_const, ↓iAdd, ↓iSub, ↓iMul, ↓iDiv, ↓iMod, ↓iPow, ↓iLt, ↓iLe, ↓iGt, ↓iGe, T.ne_Ratio_Vector, T.ne_Ratio_Poly, T.ne_Vector_Ratio, T.ne_Vector_Poly, T.ne_Poly_Ratio, T.ne_Poly_Vector, T.ne_Empty_ZeroBottom, T.ne_ZeroBottom_Empty, ↓reduceIte, Nat.reduceLeDiff, Nat.reduceLT, reduceCtorEq, isiInt, isiBool, isiStr, isiC, isiTup, isiLst, isiOr, nfC, inL, startP, startI, setAll, List.replicate, Nat.reduceSub, Nat.reduceAdd, List.length_map, Int.natCast_inj, Int.toNat_natCast, Int.zero_add, toD_lst, toD_tup, shaped_lst, shaped_tup, eqv_lst, eqv_tup, toD_nil, shaped_nil, eqv_nil, List.length_set, List.length_range, rangeP_len, ixN_0, emptyE, toD, toDs]
    refine ⟨by decide +kernel, by decide +kernel, ?_⟩
    rw [if_neg (by decide +kernel)]
    refine he 1 3 y _ s1 (by decide) (by decide) ?_
    simp (maxSteps := 3000000) (disch := decide) only [↓psE, psO, forall_const, ↓iAdd, ↓iSub, ↓iMul, ↓iDiv, ↓iMod, ↓iPow, ↓iLt, ↓iLe, ↓iGt, ↓iGe, T.ne_Ratio_Vector, T.ne_Ratio_Poly, T.ne_Vector_Ratio, T.ne_Vector_Poly, T.ne_Poly_Ratio, T.ne_Poly_Vector, T.ne_Empty_ZeroBottom, T.ne_ZeroBottom_Empty, ↓reduceIte, Nat.reduceLeDiff, Nat.reduceLT, reduceCtorEq, isiInt, isiBool, isiStr, isiC, isiTup, isiLst, isiOr, nfC, inL, startP, startI, setAll, List.replicate, Nat.reduceSub, Nat.reduceAdd, List.length_map, Int.natCast_inj, Int.toNat_natCast, Int.zero_add, toD_lst, toD_tup, shaped_lst, shaped_tup, eqv_lst, eqv_tup, toD_nil, shaped_nil, eqv_nil, List.length_set, List.length_range, rangeP_len, ixN_0, emptyE, toD, toDs]
    refine ⟨by decide +kernel, by decide +kernel, ?_⟩
    rw [if_neg (by decide +kernel)]
    refine ⟨ts, b, 0, rfl, ⟨h5, h2, by decide, by decide⟩, fun z => absurd z (by simp [h4]), fun _ _ z => absurd z h3, fun _ _ _ => ?_, .inr (by decide)⟩
    simp (maxSteps := 3000000) (disch := decide) only [↓psE, psO, forall_const, ↓iAdd, ↓iSub, ↓iMul, ↓iDiv, ↓iMod, ↓iPow, ↓iLt, ↓iLe, ↓iGt, ↓iGe, T.ne_Ratio_Vector, T.ne_Ratio_Poly, T.ne_Vector_Ratio, T.ne_Vector_Poly, T.ne_Poly_Ratio, T.ne_Poly_Vector, T.ne_Empty_ZeroBottom, T.ne_ZeroBottom_Empty, ↓reduceIte, Nat.reduceLeDiff, Nat.reduceLT, reduceCtorEq, isiInt, isiBool, isiStr, isiC, isiTup, isiLst, isiOr, nfC, inL, startP, startI, setAll, List.replicate, Nat.reduceSub, Nat.reduceAdd, List.length_map, Int.natCast_inj, Int.toNat_natCast, Int.zero_add, toD_lst, toD_tup, shaped_lst, shaped_tup, eqv_lst, eqv_tup, toD_nil, shaped_nil, eqv_nil, List.length_set, List.length_range, rangeP_len, ixN_0, emptyE, toD, toDs]
    refine ⟨by decide +kernel, by decide +kernel, ?_⟩
    rw [if_neg (by decide +kernel)]
    refine ⟨ts, 0, 0, rfl, ⟨h5, s0, by decide, by decide⟩, fun z => absurd z (by simp [h4]), fun _ _ _ => ?_, fun _ _ z => absurd rfl z, .inr (by decide)⟩
    simp (maxSteps := 3000000) (disch := decide) only [↓psE, psO, forall_const, ↓iAdd, ↓iSub, ↓iMul, ↓iDiv, ↓iMod, ↓iPow, ↓iLt, ↓iLe, ↓iGt, ↓iGe, T.ne_Ratio_Vector, T.ne_Ratio_Poly, T.ne_Vector_Ratio, T.ne_Vector_Poly, T.ne_Poly_Ratio, T.ne_Poly_Vector, T.ne_Empty_ZeroBottom, T.ne_ZeroBottom_Empty, ↓reduceIte, Nat.reduceLeDiff, Nat.reduceLT, reduceCtorEq, isiInt, isiBool, isiStr, isiC, isiTup, isiLst, isiOr, nfC, inL, startP, startI, setAll, List.replicate, Nat.reduceSub, Nat.reduceAdd, List.length_map, Int.natCast_inj, Int.toNat_natCast, Int.zero_add, toD_lst, toD_tup, shaped_lst, shaped_tup, eqv_lst, eqv_tup, toD_nil, shaped_nil, eqv_nil, List.length_set, List.length_range, rangeP_len, ixN_0, zeroE, toD, toDs]
    exact ⟨by decide +kernel, by decide +kernel, h⟩

theorem ok_law_made_others (T : Txt K mg a) (S : Fs K a d) : FnOk P w K mg base (L2.CX P w) 6 a.f_law_made_others d.d_law_made_others ["thing", "low", "place"] (spP K (P_law_made_others a)) := by
  obtain ⟨ds_Vector_init_1, hd_Vector_init_1, hb_Vector_init_1⟩ := S.B_Vector_init_1
  refine fa_q (k := 5) S.F_law_made_others sc_law_made_others (len_law_made_others a) (fun cdv A outer s H E hr =>
    (jss_cons (js_set 3 sc_law_made_others.nd (je_len T.b_len (ja_cons (je_ix (je_var 1) je_int) ja_nil)))
      (jss_cons (js_if (jt_w (jw_or (jt_not (jt_val (je_call (ok_law_is T S) (hr.mono (by decide)) T.mg_law_is S.F_law_is.kp S.B_law_is .nil (fun _ => .nil) (tkOf (takes_of rfl rfl rfl rfl)) (ja_cons (je_make T.mk_Vector (ok_Vector_init T S) (hr.mono (by decide)) T.mg_Vector S.B_Vector_init .nil (fun _ => .nil) (tkOf (takes_of rfl rfl rfl rfl)) (ja_cons (je_tuple T.b_tuple (ja_cons (je_ix (je_var 0) je_int) ja_nil)) (ja_cons (je_ix (je_var 0) je_int) ja_nil))) (ja_cons (je_var 1) ja_nil))))) (jw_or1 (jt_not (jt_val (je_call (ok_law_is T S) (hr.mono (by decide)) T.mg_law_is S.F_law_is.kp S.B_law_is .nil (fun _ => .nil) (tkOf (takes_of rfl rfl rfl rfl)) (ja_cons (je_make (dps := [.int 1]) T.mk_Vector (ok_Vector_init T S) (hr.mono (by decide)) T.mg_Vector hb_Vector_init_1 hd_Vector_init_1 (fun _ => (.cons (.int 1) .nil)) (tkOf (takes_of rfl rfl rfl rfl)) (ja_cons (je_list T.b_list (ja_cons (je_ix (je_var 1) je_int) ja_nil)) ja_nil)) (ja_cons (je_tup (ja_cons (je_ix (je_var 1) je_int) (ja_cons je_int ja_nil))) ja_nil)))))))) (jss_one (js_ret je_bl)) jss_nil)
      (jss_cons (js_if (jt_not (jt_val (je_call (ok_law_is T S) (hr.mono (by decide)) T.mg_law_is S.F_law_is.kp S.B_law_is .nil (fun _ => .nil) (tkOf (takes_of rfl rfl rfl rfl)) (ja_cons (je_stat T.mg_Vector T.st_Vector_unit S.F_Vector_unit.kp (ok_Vector_unit T S) (hr.mono (by decide)) S.B_Vector_unit .nil (fun _ => .nil) (tkOf (takes_of rfl rfl rfl rfl)) (ja_cons (je_var 3) (ja_cons (je_var 2) ja_nil))) (ja_cons (je_tup (ja_cons (je_lc (own := [("k", 4)]) (g := (gName 4)) (t := (tName 4)) rfl sc_law_made_others.nd (ji_range1 T.b_range (ja_cons (je_var 3) ja_nil)) (blkOk_by (N := ["thing", "low", "place", "size", "k", "tops", "ratios", "kept", "x"]) (sc := defScope s_law_made_others) (by decide +kernel)) (tg_name 4) (fun _ _ _ _ _ => pg_name (i := 4) sc_law_made_others.nd rfl (Or.inl rfl)) (fun _ _ _ _ _ => jts_nil) (fun _ _ _ _ _ => (je_toint T.b_int (ja_cons (je_eq (je_var 4) (je_var 2)) ja_nil)))) (ja_cons je_int ja_nil))) ja_nil))))) (jss_one (js_ret je_bl)) jss_nil)
      (jss_cons (js_if (jt_not (jt_val (je_call (ok_law_is T S) (hr.mono (by decide)) T.mg_law_is S.F_law_is.kp S.B_law_is .nil (fun _ => .nil) (tkOf (takes_of rfl rfl rfl rfl)) (ja_cons (je_stat T.mg_Vector T.st_Vector_zero S.F_Vector_zero.kp (ok_Vector_zero T S) (hr.mono (by decide)) S.B_Vector_zero .nil (fun _ => .nil) (tkOf (takes_of rfl rfl rfl rfl)) (ja_cons (je_var 3) ja_nil)) (ja_cons (je_tup (ja_cons (je_lc (own := [("k", 4)]) (g := (gName 4)) (t := (tName 4)) rfl sc_law_made_others.nd (ji_range1 T.b_range (ja_cons (je_var 3) ja_nil)) (blkOk_by (N := ["thing", "low", "place", "size", "k", "tops", "ratios", "kept", "x"]) (sc := defScope s_law_made_others) (by decide +kernel)) (tg_name 4) (fun _ _ _ _ _ => pg_name (i := 4) sc_law_made_others.nd rfl (Or.inl rfl)) (fun _ _ _ _ _ => jts_nil) (fun _ _ _ _ _ => je_int)) (ja_cons je_int ja_nil))) ja_nil))))) (jss_one (js_ret je_bl)) jss_nil)
      (jss_cons (js_setLc 5 (own := [("k", 4)]) (g := (gName 4)) (t := (tName 4)) rfl sc_law_made_others.nd (ji_range1 T.b_range (ja_cons (je_var 3) ja_nil)) (blkOk_by (N := ["thing", "low", "place", "size", "k", "tops", "ratios", "kept", "x"]) (sc := defScope s_law_made_others) (by decide +kernel)) (tg_name 4) (fun _ _ _ _ _ => pg_name (i := 4) sc_law_made_others.nd rfl (Or.inl rfl)) (fun _ _ _ _ _ => jts_nil) (fun _ _ _ _ _ => (je_mul (je_ix (je_ix (je_var 1) je_int) (je_var 4)) (je_div je_int (je_add je_int (je_mod (je_toint T.b_int (ja_cons (je_var 4) ja_nil)) je_int))))))
      (jss_cons (js_setLc 6 (own := [("k", 4)]) (g := (gName 4)) (t := (tName 4)) rfl sc_law_made_others.nd (ji_range1 T.b_range (ja_cons (je_var 3) ja_nil)) (blkOk_by (N := ["thing", "low", "place", "size", "k", "tops", "ratios", "kept", "x"]) (sc := defScope s_law_made_others) (by decide +kernel)) (tg_name 4) (fun _ _ _ _ _ => pg_name (i := 4) sc_law_made_others.nd rfl (Or.inl rfl)) (fun _ _ _ _ _ => jts_nil) (fun _ _ _ _ _ => (je_make T.mk_Ratio (ok_Ratio_init T S) (hr.mono (by decide)) T.mg_Ratio S.B_Ratio_init .nil (fun _ => .nil) tk_false (ja_cons (je_ix (je_ix (je_var 1) je_int) (je_var 4)) (ja_cons (je_add je_int (je_mod (je_toint T.b_int (ja_cons (je_var 4) ja_nil)) je_int)) ja_nil)))))
      (jss_cons (js_setLc 7 (own := [("x", 8)]) (g := (gName 8)) (t := (tName 8)) rfl sc_law_made_others.nd (ji_list (je_var 6)) (blkOk_by (N := ["thing", "low", "place", "size", "k", "tops", "ratios", "kept", "x"]) (sc := defScope s_law_made_others) (by decide +kernel)) (tg_name 8) (fun _ _ _ _ _ => pg_name (i := 8) sc_law_made_others.nd rfl (Or.inl rfl)) (fun _ _ _ _ _ => jts_nil) (fun _ _ _ _ _ => (je_tup (ja_cons (je_fld (je_var 8) T.cl_Ratio T.na_Ratio_top) (ja_cons (je_fld (je_var 8) T.cl_Ratio T.na_Ratio_bottom) ja_nil)))))
      (jss_cons (js_if (jt_w (jw_or (jt_not (jt_val (je_call (ok_law_is T S) (hr.mono (by decide)) T.mg_law_is S.F_law_is.kp S.B_law_is .nil (fun _ => .nil) (tkOf (takes_of rfl rfl rfl rfl)) (ja_cons (je_stat T.mg_Vector T.st_Vector_of S.F_Vector_of.kp (ok_Vector_of T S) (hr.mono (by decide)) S.B_Vector_of .nil (fun _ => .nil) (tkOf (takes_of rfl rfl rfl rfl)) (ja_cons (je_var 6) ja_nil)) (ja_cons (je_call (ok_law_low T S) (hr.mono (by decide)) T.mg_law_low S.F_law_low.kp S.B_law_low .nil (fun _ => .nil) (tkOf (takes_of rfl rfl rfl rfl)) (ja_cons (je_var 5) (ja_cons je_int ja_nil))) ja_nil))))) (jw_or1 (jt_neD hr (je_lc (own := [("x", 8)]) (g := (gName 8)) (t := (tName 8)) rfl sc_law_made_others.nd (ji_list (je_var 6)) (blkOk_by (N := ["thing", "low", "place", "size", "k", "tops", "ratios", "kept", "x"]) (sc := defScope s_law_made_others) (by decide +kernel)) (tg_name 8) (fun _ _ _ _ _ => pg_name (i := 8) sc_law_made_others.nd rfl (Or.inl rfl)) (fun _ _ _ _ _ => jts_nil) (fun _ _ _ _ _ => (je_tup (ja_cons (je_fld (je_var 8) T.cl_Ratio T.na_Ratio_top) (ja_cons (je_fld (je_var 8) T.cl_Ratio T.na_Ratio_bottom) ja_nil))))) (je_var 7))))) (jss_one (js_ret je_bl)) jss_nil)
      (jss_one (js_ret (je_call (ok_law_is T S) (hr.mono (by decide)) T.mg_law_is S.F_law_is.kp S.B_law_is .nil (fun _ => .nil) (tkOf (takes_of rfl rfl rfl rfl)) (ja_cons (je_stat T.mg_Vector T.st_Vector_of S.F_Vector_of.kp (ok_Vector_of T S) (hr.mono (by decide)) S.B_Vector_of .nil (fun _ => .nil) (tkOf (takes_of rfl rfl rfl rfl)) (ja_cons (je_tuple T.b_tuple (ja_cons (je_var 6) ja_nil)) ja_nil)) (ja_cons (je_call (ok_law_low T S) (hr.mono (by decide)) T.mg_law_low S.F_law_low.kp S.B_law_low .nil (fun _ => .nil) (tkOf (takes_of rfl rfl rfl rfl)) (ja_cons (je_var 5) (ja_cons je_int ja_nil))) ja_nil)))))))))))))) ?pure
  case pure =>
    rintro xs y Q ⟨ts, b, us, c, k, rfl, ⟨eu, ec, ⟨g1, g2, g3, g4, g5⟩, hl⟩, h⟩
    have hn0 : us ≠ [] := fun z => g4 (by have := normT_len ts b; rw [← eu, z] at this; exact List.length_eq_zero_iff.mp this.symm)
    have hnl : us.length = ts.length := by rw [eu]; exact normT_len ts b
    have hpos : 0 < us.length := List.length_pos_iff.mpr hn0
    have n1 : ∀ t ∈ us, Sz 100 t := by rw [eu]; exact normT_sz g1 g3
    have s1 : Sz 8000 1 := sz_small (by decide) (by decide) (by decide)
    simp (maxSteps := 3000000) (disch := decide) only [↓psE, psO, forall_const, ↓iAdd, ↓iSub, ↓iMul, ↓iDiv, ↓iMod, ↓iPow, ↓iLt, ↓iLe, ↓iGt, ↓iGe, T.ne_Ratio_Vector, T.ne_Ratio_Poly, T.ne_Vector_Ratio, T.ne_Vector_Poly, T.ne_Poly_Ratio, T.ne_Poly_Vector, T.ne_Empty_ZeroBottom, T.ne_ZeroBottom_Empty, ↓reduceIte, Nat.reduceLeDiff, Nat.reduceLT, reduceCtorEq, isiInt, isiBool, isiStr, isiC, isiTup, isiLst, isiOr, nfC, inL, startP, startI, setAll, List.replicate, Nat.reduceSub, Nat.reduceAdd, List.length_map, Int.natCast_inj, Int.toNat_natCast, Int.zero_add, toD_lst, toD_tup, shaped_lst, shaped_tup, eqv_lst, eqv_tup, toD_nil, shaped_nil, eqv_nil, List.length_set, List.length_range, rangeP_len, ixN_0, ↓i_initL, ↓i_initT, ↓i_law_is, ← eu, ← ec, (low_one us).2.1, (low_one us).2.2]
    refine ⟨fun z => absurd z g4, fun _ z => absurd z g3, fun _ _ => ⟨⟨by omega, g2.mono (by decide)⟩, by omega, fun z => absurd z hn0, fun _ z => absurd z (by decide), fun _ _ => ⟨⟨by omega, s1⟩, by omega, ?_⟩⟩⟩
    simp (maxSteps := 3000000) (disch := decide) only [↓psE, psO, forall_const, ↓iAdd, ↓iSub, ↓iMul, ↓iDiv, ↓iMod, ↓iPow, ↓iLt, ↓iLe, ↓iGt, ↓iGe, T.ne_Ratio_Vector, T.ne_Ratio_Poly, T.ne_Vector_Ratio, T.ne_Vector_Poly, T.ne_Poly_Ratio, T.ne_Poly_Vector, T.ne_Empty_ZeroBottom, T.ne_ZeroBottom_Empty, ↓reduceIte, Nat.reduceLeDiff, Nat.reduceLT, reduceCtorEq, isiInt, isiBool, isiStr, isiC, isiTup, isiLst, isiOr, nfC, inL, startP, startI, setAll, List.replicate, Nat.reduceSub, Nat.reduceAdd, List.length_map, Int.natCast_inj, Int.toNat_natCast, Int.zero_add, toD_lst, toD_tup, shaped_lst, shaped_tup, eqv_lst, eqv_tup, toD_nil, shaped_nil, eqv_nil, List.length_set, List.length_range, rangeP_len, ixN_0, ↓i_Vector_unit]
    refine ⟨⟨by omega, by omega⟩, by omega, by omega, by omega, coll_places (fun i => if (i : Int) = k then 1 else 0) us.length (fun i hi R hR => ?_) ?_⟩
    · simp (maxSteps := 3000000) (disch := decide) only [↓psE, psO, forall_const, ↓iAdd, ↓iSub, ↓iMul, ↓iDiv, ↓iMod, ↓iPow, ↓iLt, ↓iLe, ↓iGt, ↓iGe, T.ne_Ratio_Vector, T.ne_Ratio_Poly, T.ne_Vector_Ratio, T.ne_Vector_Poly, T.ne_Poly_Ratio, T.ne_Poly_Vector, T.ne_Empty_ZeroBottom, T.ne_ZeroBottom_Empty, ↓reduceIte, Nat.reduceLeDiff, Nat.reduceLT, reduceCtorEq, isiInt, isiBool, isiStr, isiC, isiTup, isiLst, isiOr, nfC, inL, startP, startI, setAll, List.replicate, Nat.reduceSub, Nat.reduceAdd, List.length_map, Int.natCast_inj, Int.toNat_natCast, Int.zero_add, toD_lst, toD_tup, shaped_lst, shaped_tup, eqv_lst, eqv_tup, toD_nil, shaped_nil, eqv_nil, List.length_set, List.length_range, rangeP_len, ixN_0]
      exact hR
    simp (maxSteps := 3000000) (disch := decide) only [↓psE, psO, forall_const, ↓iAdd, ↓iSub, ↓iMul, ↓iDiv, ↓iMod, ↓iPow, ↓iLt, ↓iLe, ↓iGt, ↓iGe, T.ne_Ratio_Vector, T.ne_Ratio_Poly, T.ne_Vector_Ratio, T.ne_Vector_Poly, T.ne_Poly_Ratio, T.ne_Poly_Vector, T.ne_Empty_ZeroBottom, T.ne_ZeroBottom_Empty, ↓reduceIte, Nat.reduceLeDiff, Nat.reduceLT, reduceCtorEq, isiInt, isiBool, isiStr, isiC, isiTup, isiLst, isiOr, nfC, inL, startP, startI, setAll, List.replicate, Nat.reduceSub, Nat.reduceAdd, List.length_map, Int.natCast_inj, Int.toNat_natCast, Int.zero_add, toD_lst, toD_tup, shaped_lst, shaped_tup, eqv_lst, eqv_tup, toD_nil, shaped_nil, eqv_nil, List.length_set, List.length_range, rangeP_len, ixN_0, ↓i_law_is, unitL, ↓i_Vector_zero]
    refine ⟨by omega, ⟨by omega, by omega⟩, by omega, by omega, by omega, coll_places (fun i => 0) us.length (fun i hi R hR => ?_) ?_⟩
    · simp (maxSteps := 3000000) (disch := decide) only [↓psE, psO, forall_const, ↓iAdd, ↓iSub, ↓iMul, ↓iDiv, ↓iMod, ↓iPow, ↓iLt, ↓iLe, ↓iGt, ↓iGe, T.ne_Ratio_Vector, T.ne_Ratio_Poly, T.ne_Vector_Ratio, T.ne_Vector_Poly, T.ne_Poly_Ratio, T.ne_Poly_Vector, T.ne_Empty_ZeroBottom, T.ne_ZeroBottom_Empty, ↓reduceIte, Nat.reduceLeDiff, Nat.reduceLT, reduceCtorEq, isiInt, isiBool, isiStr, isiC, isiTup, isiLst, isiOr, nfC, inL, startP, startI, setAll, List.replicate, Nat.reduceSub, Nat.reduceAdd, List.length_map, Int.natCast_inj, Int.toNat_natCast, Int.zero_add, toD_lst, toD_tup, shaped_lst, shaped_tup, eqv_lst, eqv_tup, toD_nil, shaped_nil, eqv_nil, List.length_set, List.length_range, rangeP_len, ixN_0]
      exact hR
    have hd : ∀ i : Nat, 0 < 1 + (i : Int) % 6 ∧ 1 + (i : Int) % 6 ≤ 6 := fun i => by omega
    have hz : ∀ i : Nat, Sz 6 (1 + (i : Int) % 6) := fun i => sz_small (by omega) (by omega) (by decide)
    have hq : ∀ i : Nat, (1 + (i : Int) % 6) * (60 : Int).fdiv (1 + (i : Int) % 6) = 60 := fun i => by
      rcases (show 1 + (i : Int) % 6 = 1 ∨ 1 + (i : Int) % 6 = 2 ∨ 1 + (i : Int) % 6 = 3 ∨ 1 + (i : Int) % 6 = 4 ∨ 1 + (i : Int) % 6 = 5 ∨ 1 + (i : Int) % 6 = 6 by omega) with e | e | e | e | e | e <;> rw [e] <;> rfl
    have hf : ∀ i : Nat, 0 ≤ (60 : Int).fdiv (1 + (i : Int) % 6) ∧ (60 : Int).fdiv (1 + (i : Int) % 6) ≤ 60 := fun i => by
      rcases (show 1 + (i : Int) % 6 = 1 ∨ 1 + (i : Int) % 6 = 2 ∨ 1 + (i : Int) % 6 = 3 ∨ 1 + (i : Int) % 6 = 4 ∨ 1 + (i : Int) % 6 = 5 ∨ 1 + (i : Int) % 6 = 6 by omega) with e | e | e | e | e | e <;> rw [e] <;> exact ⟨by decide, by decide⟩
    simp (maxSteps := 3000000) (disch := decide) only [↓psE, psO, forall_const, ↓iAdd, ↓iSub, ↓iMul, ↓iDiv, ↓iMod, ↓iPow, ↓iLt, ↓iLe, ↓iGt, ↓iGe, T.ne_Ratio_Vector, T.ne_Ratio_Poly, T.ne_Vector_Ratio, T.ne_Vector_Poly, T.ne_Poly_Ratio, T.ne_Poly_Vector, T.ne_Empty_ZeroBottom, T.ne_ZeroBottom_Empty, ↓reduceIte, Nat.reduceLeDiff, Nat.reduceLT, reduceCtorEq, isiInt, isiBool, isiStr, isiC, isiTup, isiLst, isiOr, nfC, inL, startP, startI, setAll, List.replicate, Nat.reduceSub, Nat.reduceAdd, List.length_map, Int.natCast_inj, Int.toNat_natCast, Int.zero_add, toD_lst, toD_tup, shaped_lst, shaped_tup, eqv_lst, eqv_tup, toD_nil, shaped_nil, eqv_nil, List.length_set, List.length_range, rangeP_len, ixN_0, ↓i_law_is]
    refine ⟨by omega, by omega, by omega, by omega, coll_places (fun i => us.getD i 0 * (60 : Int).fdiv (1 + (i : Int) % 6)) us.length (fun i hi R hR => ?_) ?_⟩
    · simp (maxSteps := 3000000) (disch := decide) only [↓psE, psO, forall_const, ↓iAdd, ↓iSub, ↓iMul, ↓iDiv, ↓iMod, ↓iPow, ↓iLt, ↓iLe, ↓iGt, ↓iGe, T.ne_Ratio_Vector, T.ne_Ratio_Poly, T.ne_Vector_Ratio, T.ne_Vector_Poly, T.ne_Poly_Ratio, T.ne_Poly_Vector, T.ne_Empty_ZeroBottom, T.ne_ZeroBottom_Empty, ↓reduceIte, Nat.reduceLeDiff, Nat.reduceLT, reduceCtorEq, isiInt, isiBool, isiStr, isiC, isiTup, isiLst, isiOr, nfC, inL, startP, startI, setAll, List.replicate, Nat.reduceSub, Nat.reduceAdd, List.length_map, Int.natCast_inj, Int.toNat_natCast, Int.zero_add, toD_lst, toD_tup, shaped_lst, shaped_tup, eqv_lst, eqv_tup, toD_nil, shaped_nil, eqv_nil, List.length_set, List.length_range, rangeP_len, ixN_0, atI_getD hi]
      exact ⟨by decide, divW (hz i) (by have := (hd i).1; omega) (by decide), mulR (by have := hf i; omega), hR⟩
    refine ⟨by omega, by omega, by omega, coll_range (fun i => ratP a.C_Ratio (nT (us.getD i 0) (1 + (i : Int) % 6), nB (us.getD i 0) (1 + (i : Int) % 6))) us.length (fun i hi R hR => ?_) ?_⟩
    · simp (maxSteps := 3000000) (disch := decide) only [↓psE, psO, forall_const, ↓iAdd, ↓iSub, ↓iMul, ↓iDiv, ↓iMod, ↓iPow, ↓iLt, ↓iLe, ↓iGt, ↓iGe, T.ne_Ratio_Vector, T.ne_Ratio_Poly, T.ne_Vector_Ratio, T.ne_Vector_Poly, T.ne_Poly_Ratio, T.ne_Poly_Vector, T.ne_Empty_ZeroBottom, T.ne_ZeroBottom_Empty, ↓reduceIte, Nat.reduceLeDiff, Nat.reduceLT, reduceCtorEq, isiInt, isiBool, isiStr, isiC, isiTup, isiLst, isiOr, nfC, inL, startP, startI, setAll, List.replicate, Nat.reduceSub, Nat.reduceAdd, List.length_map, Int.natCast_inj, Int.toNat_natCast, Int.zero_add, toD_lst, toD_tup, shaped_lst, shaped_tup, eqv_lst, eqv_tup, toD_nil, shaped_nil, eqv_nil, List.length_set, List.length_range, rangeP_len, ixN_0, atI_getD hi, ↓i_Ratio_init]
      exact ⟨by decide, fun z => absurd z (by have := (hd i).1; omega), fun _ => ⟨(hz i).mono (by decide), hR⟩⟩
    generalize hrs : (List.range us.length).map (fun i : Nat => (nT (us.getD i 0) (1 + (i : Int) % 6), nB (us.getD i 0) (1 + (i : Int) % 6))) = rs
    have hrl : rs.length = us.length := by rw [← hrs]; simp
    have hmap : (List.range us.length).map (fun i : Nat => ratP a.C_Ratio (nT (us.getD i 0) (1 + (i : Int) % 6), nB (us.getD i 0) (1 + (i : Int) % 6))) = rs.map (ratP a.C_Ratio) := by rw [← hrs, List.map_map]; rfl
    have gr : GoodR rs := ⟨by omega, fun r hr => by
      rw [← hrs] at hr
      obtain ⟨i, hi, rfl⟩ := List.mem_map.mp hr
      have hne : 1 + (i : Int) % 6 ≠ 0 := by have := (hd i).1; omega
      exact ⟨nB_pos hne, (nB_sz (hz i) hne).mono (by decide), (nT_sz (n1 _ (QL.getD_mem (List.mem_range.mp hi))) hne).mono (by decide)⟩⟩
    have hx := of_cross us (fun i => 1 + (i : Int) % 6) (fun i => (60 : Int).fdiv (1 + (i : Int) % 6)) (fun i => (hd i).1) hq rs hrs.symm
    have hL : 0 < lcmL rs 1 := lcmL_pos (fun r hr => (gr.2 r hr).1) (by decide)
    have hxx := norm_cross (Int.ne_of_gt hL) (by decide) hx
    rw [hmap]
    simp (maxSteps := 3000000) (disch := decide) only [↓psE, psO, forall_const, ↓iAdd, ↓iSub, ↓iMul, ↓iDiv, ↓iMod, ↓iPow, ↓iLt, ↓iLe, ↓iGt, ↓iGe, T.ne_Ratio_Vector, T.ne_Ratio_Poly, T.ne_Vector_Ratio, T.ne_Vector_Poly, T.ne_Poly_Ratio, T.ne_Poly_Vector, T.ne_Empty_ZeroBottom, T.ne_ZeroBottom_Empty, ↓reduceIte, Nat.reduceLeDiff, Nat.reduceLT, reduceCtorEq, isiInt, isiBool, isiStr, isiC, isiTup, isiLst, isiOr, nfC, inL, startP, startI, setAll, List.replicate, Nat.reduceSub, Nat.reduceAdd, List.length_map, Int.natCast_inj, Int.toNat_natCast, Int.zero_add, toD_lst, toD_tup, shaped_lst, shaped_tup, eqv_lst, eqv_tup, toD_nil, shaped_nil, eqv_nil, List.length_set, List.length_range, rangeP_len, ixN_0]
    refine ⟨by omega, coll_rats a.C_Ratio (fun r => .tup [.int r.1, .int r.2]) rs [] (fun r hr R hR => ?_) ?_⟩
    · simp (maxSteps := 3000000) (disch := decide) only [↓psE, psO, forall_const, ↓iAdd, ↓iSub, ↓iMul, ↓iDiv, ↓iMod, ↓iPow, ↓iLt, ↓iLe, ↓iGt, ↓iGe, T.ne_Ratio_Vector, T.ne_Ratio_Poly, T.ne_Vector_Ratio, T.ne_Vector_Poly, T.ne_Poly_Ratio, T.ne_Poly_Vector, T.ne_Empty_ZeroBottom, T.ne_ZeroBottom_Empty, ↓reduceIte, Nat.reduceLeDiff, Nat.reduceLT, reduceCtorEq, isiInt, isiBool, isiStr, isiC, isiTup, isiLst, isiOr, nfC, inL, startP, startI, setAll, List.replicate, Nat.reduceSub, Nat.reduceAdd, List.length_map, Int.natCast_inj, Int.toNat_natCast, Int.zero_add, toD_lst, toD_tup, shaped_lst, shaped_tup, eqv_lst, eqv_tup, toD_nil, shaped_nil, eqv_nil, List.length_set, List.length_range, rangeP_len, ixN_0, ratP, rat]
      exact hR
    have hrn : rs ≠ [] := fun z => by rw [z] at hrl; simp at hrl; omega
    generalize hts : (List.range us.length).map (fun i : Nat => us.getD i 0 * (60 : Int).fdiv (1 + (i : Int) % 6)) = vs at *
    have hvl : vs.length = us.length := by rw [← hts]; simp
    have s60 : Sz 6 60 := by unfold Sz; decide
    have hvs : SzL 8000 vs := fun t ht => by
      rw [← hts] at ht
      obtain ⟨i, hi, rfl⟩ := List.mem_map.mp ht
      have hf1 := hf i
      exact ((n1 _ (QL.getD_mem (List.mem_range.mp hi))).mul (s60.le (y := (60 : Int).fdiv (1 + (i : Int) % 6)) (by omega))).mono (by decide)
    simp (maxSteps := 3000000) (disch := decide) only [↓psE, psO, forall_const, ↓iAdd, ↓iSub, ↓iMul, ↓iDiv, ↓iMod, ↓iPow, ↓iLt, ↓iLe, ↓iGt, ↓iGe, T.ne_Ratio_Vector, T.ne_Ratio_Poly, T.ne_Vector_Ratio, T.ne_Vector_Poly, T.ne_Poly_Ratio, T.ne_Poly_Vector, T.ne_Empty_ZeroBottom, T.ne_ZeroBottom_Empty, ↓reduceIte, Nat.reduceLeDiff, Nat.reduceLT, reduceCtorEq, isiInt, isiBool, isiStr, isiC, isiTup, isiLst, isiOr, nfC, inL, startP, startI, setAll, List.replicate, Nat.reduceSub, Nat.reduceAdd, List.length_map, Int.natCast_inj, Int.toNat_natCast, Int.zero_add, toD_lst, toD_tup, shaped_lst, shaped_tup, eqv_lst, eqv_tup, toD_nil, shaped_nil, eqv_nil, List.length_set, List.length_range, rangeP_len, ixN_0, ↓i_Vector_of]
    refine ⟨rs, .inl rfl, gr, fun z => absurd z hrn, fun _ => ?_⟩
    simp (maxSteps := 3000000) (disch := decide) only [↓psE, psO, forall_const, ↓iAdd, ↓iSub, ↓iMul, ↓iDiv, ↓iMod, ↓iPow, ↓iLt, ↓iLe, ↓iGt, ↓iGe, T.ne_Ratio_Vector, T.ne_Ratio_Poly, T.ne_Vector_Ratio, T.ne_Vector_Poly, T.ne_Poly_Ratio, T.ne_Poly_Vector, T.ne_Empty_ZeroBottom, T.ne_ZeroBottom_Empty, ↓reduceIte, Nat.reduceLeDiff, Nat.reduceLT, reduceCtorEq, isiInt, isiBool, isiStr, isiC, isiTup, isiLst, isiOr, nfC, inL, startP, startI, setAll, List.replicate, Nat.reduceSub, Nat.reduceAdd, List.length_map, Int.natCast_inj, Int.toNat_natCast, Int.zero_add, toD_lst, toD_tup, shaped_lst, shaped_tup, eqv_lst, eqv_tup, toD_nil, shaped_nil, eqv_nil, List.length_set, List.length_range, rangeP_len, ixN_0, ↓i_law_low, ↓i_law_is, hxx.1, hxx.2, normT_len]
    refine ⟨⟨by decide, s60.mono (by decide), hvs, by omega⟩, by omega, by omega, coll_rats a.C_Ratio (fun r => .tup [.int r.1, .int r.2]) rs [] (fun r hr R hR => ?_) ?_⟩
    · simp (maxSteps := 3000000) (disch := decide) only [↓psE, psO, forall_const, ↓iAdd, ↓iSub, ↓iMul, ↓iDiv, ↓iMod, ↓iPow, ↓iLt, ↓iLe, ↓iGt, ↓iGe, T.ne_Ratio_Vector, T.ne_Ratio_Poly, T.ne_Vector_Ratio, T.ne_Vector_Poly, T.ne_Poly_Ratio, T.ne_Poly_Vector, T.ne_Empty_ZeroBottom, T.ne_ZeroBottom_Empty, ↓reduceIte, Nat.reduceLeDiff, Nat.reduceLT, reduceCtorEq, isiInt, isiBool, isiStr, isiC, isiTup, isiLst, isiOr, nfC, inL, startP, startI, setAll, List.replicate, Nat.reduceSub, Nat.reduceAdd, List.length_map, Int.natCast_inj, Int.toNat_natCast, Int.zero_add, toD_lst, toD_tup, shaped_lst, shaped_tup, eqv_lst, eqv_tup, toD_nil, shaped_nil, eqv_nil, List.length_set, List.length_range, rangeP_len, ixN_0, ratP, rat]
      exact hR
    rw [List.nil_append, toD_pairs]
    simp (maxSteps := 3000000) (disch := decide) only [↓psE, psO, forall_const, ↓iAdd, ↓iSub, ↓iMul, ↓iDiv, ↓iMod, ↓iPow, ↓iLt, ↓iLe, ↓iGt, ↓iGe, T.ne_Ratio_Vector, T.ne_Ratio_Poly, T.ne_Vector_Ratio, T.ne_Vector_Poly, T.ne_Poly_Ratio, T.ne_Poly_Vector, T.ne_Empty_ZeroBottom, T.ne_ZeroBottom_Empty, ↓reduceIte, Nat.reduceLeDiff, Nat.reduceLT, reduceCtorEq, isiInt, isiBool, isiStr, isiC, isiTup, isiLst, isiOr, nfC, inL, startP, startI, setAll, List.replicate, Nat.reduceSub, Nat.reduceAdd, List.length_map, Int.natCast_inj, Int.toNat_natCast, Int.zero_add, toD_lst, toD_tup, shaped_lst, shaped_tup, eqv_lst, eqv_tup, toD_nil, shaped_nil, eqv_nil, List.length_set, List.length_range, rangeP_len, ixN_0, shaped_pairs, eqv_sh (shaped_pairs rs)]
    refine ⟨rs, .inr rfl, gr, fun z => absurd z hrn, fun _ => ?_⟩
    simp (maxSteps := 3000000) (disch := decide) only [↓psE, psO, forall_const, ↓iAdd, ↓iSub, ↓iMul, ↓iDiv, ↓iMod, ↓iPow, ↓iLt, ↓iLe, ↓iGt, ↓iGe, T.ne_Ratio_Vector, T.ne_Ratio_Poly, T.ne_Vector_Ratio, T.ne_Vector_Poly, T.ne_Poly_Ratio, T.ne_Poly_Vector, T.ne_Empty_ZeroBottom, T.ne_ZeroBottom_Empty, ↓reduceIte, Nat.reduceLeDiff, Nat.reduceLT, reduceCtorEq, isiInt, isiBool, isiStr, isiC, isiTup, isiLst, isiOr, nfC, inL, startP, startI, setAll, List.replicate, Nat.reduceSub, Nat.reduceAdd, List.length_map, Int.natCast_inj, Int.toNat_natCast, Int.zero_add, toD_lst, toD_tup, shaped_lst, shaped_tup, eqv_lst, eqv_tup, toD_nil, shaped_nil, eqv_nil, List.length_set, List.length_range, rangeP_len, ixN_0, ↓i_law_low, ↓i_law_is, hxx.1, hxx.2, normT_len]
    exact ⟨⟨by decide, s60.mono (by decide), hvs, by omega⟩, by omega, h⟩

theorem ok_law (T : Txt K mg a) (S : Fs K a d) : FnOk P w K mg base (L2.CX P w) 8 a.f_law d.d_law ["script"] (spP K (P_law a)) := by
  refine fa_q (k := 7) S.F_law sc_law (len_law a) (fun cdv A outer s H E hr =>
    (jss_cons (js_set 1 sc_law.nd (je_call (ok_law_draws T S) (hr.mono (by decide)) T.mg_law_draws S.F_law_draws.kp S.B_law_draws .nil (fun _ => .nil) (tkOf (takes_of rfl rfl rfl rfl)) (ja_cons (je_var 0) (ja_cons je_int (ja_cons je_int ja_nil)))))
      (jss_cons (js_set 2 sc_law.nd (je_add je_int (je_mod (je_toint T.b_int (ja_cons (je_ix (je_var 1) je_int) ja_nil)) je_int)))
      (jss_cut (js_if (jt_eq (je_mod (je_toint T.b_int (ja_cons (je_div (je_ix (je_var 1) je_int) je_int) ja_nil)) je_int) je_int) (jss_one (js_set 2 sc_law.nd je_int)) jss_nil)
      (jss_cons (js_set 3 sc_law.nd (je_var 2))
      (jss_cut (js_if (jt_eq (je_mod (je_toint T.b_int (ja_cons (je_ix (je_var 1) je_int) ja_nil)) je_int) je_int) (jss_one (js_set 3 sc_law.nd (je_add je_int (je_mod (je_toint T.b_int (ja_cons (je_div (je_ix (je_var 1) je_int) je_int) ja_nil)) je_int)))) jss_nil)
      (jss_cons (js_set 4 sc_law.nd (je_call (ok_law_thing T S) (hr.mono (by decide)) T.mg_law_thing S.F_law_thing.kp S.B_law_thing .nil (fun _ => .nil) (tkOf (takes_of rfl rfl rfl rfl)) (ja_cons (je_var 0) (ja_cons je_int (ja_cons (je_var 2) ja_nil)))))
      (jss_cons (js_set 5 sc_law.nd (je_call (ok_law_thing T S) (hr.mono (by decide)) T.mg_law_thing S.F_law_thing.kp S.B_law_thing .nil (fun _ => .nil) (tkOf (takes_of rfl rfl rfl rfl)) (ja_cons (je_var 0) (ja_cons je_int (ja_cons (je_var 3) ja_nil)))))
      (jss_cons (js_unp [6, 7] rfl (pgs_cons (pg_name (i := 6) sc_law.nd rfl (Or.inl rfl)) (pgs_cons (pg_name (i := 7) sc_law.nd rfl (Or.inl rfl)) pgs_nil)) (je_call (ok_law_factors T S) (hr.mono (by decide)) T.mg_law_factors S.F_law_factors.kp S.B_law_factors .nil (fun _ => .nil) (tkOf (takes_of rfl rfl rfl rfl)) (ja_cons (je_var 0) (ja_cons (je_var 1) ja_nil))))
      (jss_cons (js_set 8 sc_law.nd (je_call (ok_law_low T S) (hr.mono (by decide)) T.mg_law_low S.F_law_low.kp S.B_law_low .nil (fun _ => .nil) (tkOf (takes_of rfl rfl rfl rfl)) (ja_cons (je_ix (je_var 4) je_int) (ja_cons (je_ix (je_var 4) je_int) ja_nil))))
      (jss_cons (js_set 9 sc_law.nd (je_call (ok_law_low T S) (hr.mono (by decide)) T.mg_law_low S.F_law_low.kp S.B_law_low .nil (fun _ => .nil) (tkOf (takes_of rfl rfl rfl rfl)) (ja_cons (je_ix (je_var 5) je_int) (ja_cons (je_ix (je_var 5) je_int) ja_nil))))
      (jss_cons (js_set 10 sc_law.nd (je_call (ok_law_made T S) (hr.mono (by decide)) T.mg_law_made S.F_law_made.kp S.B_law_made .nil (fun _ => .nil) (tkOf (takes_of rfl rfl rfl rfl)) (ja_cons (je_var 4) ja_nil)))
      (jss_cons (js_set 11 sc_law.nd (je_call (ok_law_made T S) (hr.mono (by decide)) T.mg_law_made S.F_law_made.kp S.B_law_made .nil (fun _ => .nil) (tkOf (takes_of rfl rfl rfl rfl)) (ja_cons (je_var 5) ja_nil)))
      (jss_cut (js_forR1 12 (passes_of rfl) rfl sc_law.nd T.b_range (ja_cons je_int ja_nil)
        (jss_cons (js_if (jt_w (jw_or (jt_not (jt_val (je_call (ok_law_is T S) (hr.mono (by decide)) T.mg_law_is S.F_law_is.kp S.B_law_is .nil (fun _ => .nil) (tkOf (takes_of rfl rfl rfl rfl)) (ja_cons (je_var 10) (ja_cons (je_var 8) ja_nil))))) (jw_or1 (jt_not (jt_val (je_call (ok_law_is T S) (hr.mono (by decide)) T.mg_law_is S.F_law_is.kp S.B_law_is .nil (fun _ => .nil) (tkOf (takes_of rfl rfl rfl rfl)) (ja_cons (je_var 11) (ja_cons (je_var 9) ja_nil)))))))) (jss_one (js_ret je_bl)) jss_nil)
      (jss_cons (js_if (jt_w (jw_or (jt_not (jt_val (je_call (ok_law_alone T S) (hr.mono (by decide)) T.mg_law_alone S.F_law_alone.kp S.B_law_alone .nil (fun _ => .nil) (tkOf (takes_of rfl rfl rfl rfl)) (ja_cons (je_var 10) (ja_cons (je_var 8) (ja_cons (je_var 6) (ja_cons (je_var 7) ja_nil))))))) (jw_or1 (jt_not (jt_val (je_call (ok_law_alone T S) (hr.mono (by decide)) T.mg_law_alone S.F_law_alone.kp S.B_law_alone .nil (fun _ => .nil) (tkOf (takes_of rfl rfl rfl rfl)) (ja_cons (je_var 11) (ja_cons (je_var 9) (ja_cons (je_var 6) (ja_cons (je_var 7) ja_nil)))))))))) (jss_one (js_ret je_bl)) jss_nil)
      (jss_cons (js_if (jt_w (jw_or (jt_not (jt_val (je_call (ok_law_pair T S) (hr.mono (by decide)) T.mg_law_pair S.F_law_pair.kp S.B_law_pair .nil (fun _ => .nil) (tkOf (takes_of rfl rfl rfl rfl)) (ja_cons (je_var 10) (ja_cons (je_var 11) (ja_cons (je_var 8) (ja_cons (je_var 9) ja_nil))))))) (jw_or (jt_not (jt_val (je_call (ok_law_pair T S) (hr.mono (by decide)) T.mg_law_pair S.F_law_pair.kp S.B_law_pair .nil (fun _ => .nil) (tkOf (takes_of rfl rfl rfl rfl)) (ja_cons (je_var 11) (ja_cons (je_var 10) (ja_cons (je_var 9) (ja_cons (je_var 8) ja_nil))))))) (jw_or1 (jt_not (jt_val (je_call (ok_law_pair T S) (hr.mono (by decide)) T.mg_law_pair S.F_law_pair.kp S.B_law_pair .nil (fun _ => .nil) (tkOf (takes_of rfl rfl rfl rfl)) (ja_cons (je_var 10) (ja_cons (je_var 10) (ja_cons (je_var 8) (ja_cons (je_var 8) ja_nil))))))))))) (jss_one (js_ret je_bl)) jss_nil)
      (jss_one (js_if (jt_w (jw_or (jt_not (jt_val (je_call (ok_law_refusals T S) (hr.mono (by decide)) T.mg_law_refusals S.F_law_refusals.kp S.B_law_refusals .nil (fun _ => .nil) (tkOf (takes_of rfl rfl rfl rfl)) (ja_cons (je_var 4) ja_nil)))) (jw_or1 (jt_not (jt_val (je_call (ok_law_made_others T S) (hr.mono (by decide)) T.mg_law_made_others S.F_law_made_others.kp S.B_law_made_others .nil (fun _ => .nil) (tkOf (takes_of rfl rfl rfl rfl)) (ja_cons (je_var 4) (ja_cons (je_var 8) (ja_cons (je_mod (je_toint T.b_int (ja_cons (je_ix (je_var 1) je_int) ja_nil)) (je_var 2)) ja_nil))))))))) (jss_one (js_ret je_bl)) jss_nil))))))
      (jss_one (js_ret (je_and (je_call (ok_law_is T S) (hr.mono (by decide)) T.mg_law_is S.F_law_is.kp S.B_law_is .nil (fun _ => .nil) (tkOf (takes_of rfl rfl rfl rfl)) (ja_cons (je_var 10) (ja_cons (je_var 8) ja_nil))) (je_one (je_call (ok_law_is T S) (hr.mono (by decide)) T.mg_law_is S.F_law_is.kp S.B_law_is .nil (fun _ => .nil) (tkOf (takes_of rfl rfl rfl rfl)) (ja_cons (je_var 11) (ja_cons (je_var 9) ja_nil))))))))))))))))))))) ?pure
  case pure =>
    rintro xs y Q ⟨ns, rfl, hn, h⟩
    simp (maxSteps := 3000000) (disch := decide) only [↓psE, psO, forall_const, ↓iAdd, ↓iSub, ↓iMul, ↓iDiv, ↓iMod, ↓iPow, ↓iLt, ↓iLe, ↓iGt, ↓iGe, T.ne_Ratio_Vector, T.ne_Ratio_Poly, T.ne_Vector_Ratio, T.ne_Vector_Poly, T.ne_Poly_Ratio, T.ne_Poly_Vector, T.ne_Empty_ZeroBottom, T.ne_ZeroBottom_Empty, ↓reduceIte, Nat.reduceLeDiff, Nat.reduceLT, reduceCtorEq, isiInt, isiBool, isiStr, isiC, isiTup, isiLst, isiOr, nfC, inL, startP, startI, setAll, List.replicate, Nat.reduceSub, Nat.reduceAdd, List.length_map, Int.natCast_inj, Int.toNat_natCast, Int.zero_add, toD_lst, toD_tup, shaped_lst, shaped_tup, eqv_lst, eqv_tup, toD_nil, shaped_nil, eqv_nil, List.length_set, List.length_range, rangeP_len, ixN_0]
    refine ⟨ns, 0, 8, rfl, by decide, hn, by decide, by decide, fun rs hl hr => ?_⟩
    match rs, hl with
    | [d0, d1, d2, d3, d4, d5, d6, d7], _ =>
    simp (maxSteps := 3000000) (disch := decide) only [↓psE, psO, forall_const, ↓iAdd, ↓iSub, ↓iMul, ↓iDiv, ↓iMod, ↓iPow, ↓iLt, ↓iLe, ↓iGt, ↓iGe, T.ne_Ratio_Vector, T.ne_Ratio_Poly, T.ne_Vector_Ratio, T.ne_Vector_Poly, T.ne_Poly_Ratio, T.ne_Poly_Vector, T.ne_Empty_ZeroBottom, T.ne_ZeroBottom_Empty, ↓reduceIte, Nat.reduceLeDiff, Nat.reduceLT, reduceCtorEq, isiInt, isiBool, isiStr, isiC, isiTup, isiLst, isiOr, nfC, inL, startP, startI, setAll, List.replicate, Nat.reduceSub, Nat.reduceAdd, List.length_map, Int.natCast_inj, Int.toNat_natCast, Int.zero_add, toD_lst, toD_tup, shaped_lst, shaped_tup, eqv_lst, eqv_tup, toD_nil, shaped_nil, eqv_nil, List.length_set, List.length_range, rangeP_len, ixN_0]
    refine ⟨by decide, ?_⟩
    refine cutS [2] (fun vs => ∃ n : Nat, 1 ≤ n ∧ n ≤ 30 ∧ vs = [some (.pv (.int n))]) ?_ ?_
    · simp (maxSteps := 3000000) (disch := decide) only [↓psE, psO, forall_const, ↓iAdd, ↓iSub, ↓iMul, ↓iDiv, ↓iMod, ↓iPow, ↓iLt, ↓iLe, ↓iGt, ↓iGe, T.ne_Ratio_Vector, T.ne_Ratio_Poly, T.ne_Vector_Ratio, T.ne_Vector_Poly, T.ne_Poly_Ratio, T.ne_Poly_Vector, T.ne_Empty_ZeroBottom, T.ne_ZeroBottom_Empty, ↓reduceIte, Nat.reduceLeDiff, Nat.reduceLT, reduceCtorEq, isiInt, isiBool, isiStr, isiC, isiTup, isiLst, isiOr, nfC, inL, startP, startI, setAll, List.replicate, Nat.reduceSub, Nat.reduceAdd, List.length_map, Int.natCast_inj, Int.toNat_natCast, Int.zero_add, toD_lst, toD_tup, shaped_lst, shaped_tup, eqv_lst, eqv_tup, toD_nil, shaped_nil, eqv_nil, List.length_set, List.length_range, rangeP_len, ixN_0]
      refine ⟨divR (by decide) (by decide), by decide, ?_⟩
      split
      · exact ⟨[_], ⟨30, by decide, by decide, rfl⟩, rfl⟩
      · exact ⟨[_], ⟨(1 + d0 % 6).toNat, by omega, by omega, by rw [show ((1 + d0 % 6).toNat : Int) = 1 + d0 % 6 by omega]⟩, rfl⟩
    rintro vs ⟨n, n1, n30, rfl⟩
    simp (maxSteps := 3000000) (disch := decide) only [↓psE, psO, forall_const, ↓iAdd, ↓iSub, ↓iMul, ↓iDiv, ↓iMod, ↓iPow, ↓iLt, ↓iLe, ↓iGt, ↓iGe, T.ne_Ratio_Vector, T.ne_Ratio_Poly, T.ne_Vector_Ratio, T.ne_Vector_Poly, T.ne_Poly_Ratio, T.ne_Poly_Vector, T.ne_Empty_ZeroBottom, T.ne_ZeroBottom_Empty, ↓reduceIte, Nat.reduceLeDiff, Nat.reduceLT, reduceCtorEq, isiInt, isiBool, isiStr, isiC, isiTup, isiLst, isiOr, nfC, inL, startP, startI, setAll, List.replicate, Nat.reduceSub, Nat.reduceAdd, List.length_map, Int.natCast_inj, Int.toNat_natCast, Int.zero_add, toD_lst, toD_tup, shaped_lst, shaped_tup, eqv_lst, eqv_tup, toD_nil, shaped_nil, eqv_nil, List.length_set, List.length_range, rangeP_len, ixN_0]
    refine cutS [3] (fun vs => ∃ m : Nat, 1 ≤ m ∧ m ≤ 30 ∧ vs = [some (.pv (.int m))]) ?_ ?_
    · simp (maxSteps := 3000000) (disch := decide) only [↓psE, psO, forall_const, ↓iAdd, ↓iSub, ↓iMul, ↓iDiv, ↓iMod, ↓iPow, ↓iLt, ↓iLe, ↓iGt, ↓iGe, T.ne_Ratio_Vector, T.ne_Ratio_Poly, T.ne_Vector_Ratio, T.ne_Vector_Poly, T.ne_Poly_Ratio, T.ne_Poly_Vector, T.ne_Empty_ZeroBottom, T.ne_ZeroBottom_Empty, ↓reduceIte, Nat.reduceLeDiff, Nat.reduceLT, reduceCtorEq, isiInt, isiBool, isiStr, isiC, isiTup, isiLst, isiOr, nfC, inL, startP, startI, setAll, List.replicate, Nat.reduceSub, Nat.reduceAdd, List.length_map, Int.natCast_inj, Int.toNat_natCast, Int.zero_add, toD_lst, toD_tup, shaped_lst, shaped_tup, eqv_lst, eqv_tup, toD_nil, shaped_nil, eqv_nil, List.length_set, List.length_range, rangeP_len, ixN_0]
      refine ⟨by decide, ?_⟩
      split
      · exact ⟨divR (by decide) (by decide), by decide, [_], ⟨(1 + d1.fdiv 4 % 7).toNat, by omega, by omega, by rw [show ((1 + d1.fdiv 4 % 7).toNat : Int) = 1 + d1.fdiv 4 % 7 by omega]⟩, rfl⟩
      · exact ⟨[_], ⟨n, n1, n30, rfl⟩, rfl⟩
    rintro vs ⟨m, m1, m30, rfl⟩
    simp (maxSteps := 3000000) (disch := decide) only [↓psE, psO, forall_const, ↓iAdd, ↓iSub, ↓iMul, ↓iDiv, ↓iMod, ↓iPow, ↓iLt, ↓iLe, ↓iGt, ↓iGe, T.ne_Ratio_Vector, T.ne_Ratio_Poly, T.ne_Vector_Ratio, T.ne_Vector_Poly, T.ne_Poly_Ratio, T.ne_Poly_Vector, T.ne_Empty_ZeroBottom, T.ne_ZeroBottom_Empty, ↓reduceIte, Nat.reduceLeDiff, Nat.reduceLT, reduceCtorEq, isiInt, isiBool, isiStr, isiC, isiTup, isiLst, isiOr, nfC, inL, startP, startI, setAll, List.replicate, Nat.reduceSub, Nat.reduceAdd, List.length_map, Int.natCast_inj, Int.toNat_natCast, Int.zero_add, toD_lst, toD_tup, shaped_lst, shaped_tup, eqv_lst, eqv_tup, toD_nil, shaped_nil, eqv_nil, List.length_set, List.length_range, rangeP_len, ixN_0, ↓i_law_thing]
    refine ⟨⟨hn, by decide, by decide, n1, n30⟩, fun ts b tl st hb sb => ⟨⟨hn, by decide, by decide, m1, m30⟩, fun us c ul su hc sc => ⟨ns, _, rfl, ⟨hn, rfl⟩, fun f p q sf sp sq hq => ?_⟩⟩⟩
    have tn : ts ≠ [] := fun z => by rw [z] at tl; simp at tl; omega
    have un : us ≠ [] := fun z => by rw [z] at ul; simp at ul; omega
    have gt : GV 100 ts b := ⟨st, sb, hb, tn, by omega⟩
    have gu : GV 100 us c := ⟨su, sc, hc, un, by omega⟩
    have lv : ∀ (ts : List Int) (b : Int), GV 100 ts b → LV (normT ts b) (normB ts b) := fun ts b ⟨h1, h2, h3, h4, h5⟩ => ⟨low_norm h3, fun t ht => (normT_sz h1 h3 t ht).mono (by decide), (normB_sz h2 h3).mono (by decide), Int.ne_of_gt (normB_pos h3), fun z => h4 (by have := normT_len ts b; rw [z] at this; exact List.length_eq_zero_iff.mp this.symm), by rw [normT_len]; exact h5⟩
    have lt := lv ts b gt
    have lu := lv us c gu
    have k8 : ∀ {ts : List Int} {b : Int}, GV 100 ts b → ¬b = 0 ∧ Sz 8000 b ∧ SzL 8000 ts ∧ ts.length ≤ 1000 := fun ⟨h1, h2, h3, h4, h5⟩ => ⟨h3, h2.mono (by decide), h1.mono (by decide), by omega⟩
    simp (maxSteps := 3000000) (disch := decide) only [↓psE, psO, forall_const, ↓iAdd, ↓iSub, ↓iMul, ↓iDiv, ↓iMod, ↓iPow, ↓iLt, ↓iLe, ↓iGt, ↓iGe, T.ne_Ratio_Vector, T.ne_Ratio_Poly, T.ne_Vector_Ratio, T.ne_Vector_Poly, T.ne_Poly_Ratio, T.ne_Poly_Vector, T.ne_Empty_ZeroBottom, T.ne_ZeroBottom_Empty, ↓reduceIte, Nat.reduceLeDiff, Nat.reduceLT, reduceCtorEq, isiInt, isiBool, isiStr, isiC, isiTup, isiLst, isiOr, nfC, inL, startP, startI, setAll, List.replicate, Nat.reduceSub, Nat.reduceAdd, List.length_map, Int.natCast_inj, Int.toNat_natCast, Int.zero_add, toD_lst, toD_tup, shaped_lst, shaped_tup, eqv_lst, eqv_tup, toD_nil, shaped_nil, eqv_nil, List.length_set, List.length_range, rangeP_len, ixN_0, ↓i_law_low, ↓i_law_made]
    refine ⟨k8 gt, k8 gu, gt.mono (by decide), gu.mono (by decide), ?_⟩
    have tl2 := normT_len ts b
    have ul2 := normT_len us c
    refine cutS [12] (fun vs => ∃ v, vs = [v]) ?_ ?_
    · simp (maxSteps := 3000000) (disch := decide) only [↓psE, psO, forall_const, ↓iAdd, ↓iSub, ↓iMul, ↓iDiv, ↓iMod, ↓iPow, ↓iLt, ↓iLe, ↓iGt, ↓iGe, T.ne_Ratio_Vector, T.ne_Ratio_Poly, T.ne_Vector_Ratio, T.ne_Vector_Poly, T.ne_Poly_Ratio, T.ne_Poly_Vector, T.ne_Empty_ZeroBottom, T.ne_ZeroBottom_Empty, ↓reduceIte, Nat.reduceLeDiff, Nat.reduceLT, reduceCtorEq, isiInt, isiBool, isiStr, isiC, isiTup, isiLst, isiOr, nfC, inL, startP, startI, setAll, List.replicate, Nat.reduceSub, Nat.reduceAdd, List.length_map, Int.natCast_inj, Int.toNat_natCast, Int.zero_add, toD_lst, toD_tup, shaped_lst, shaped_tup, eqv_lst, eqv_tup, toD_nil, shaped_nil, eqv_nil, List.length_set, List.length_range, rangeP_len, ixN_0]
      refine ⟨by decide, by decide, ?_⟩
      refine loopS [12] (fun k vs => ∃ v, vs = [v]) [none] rfl ⟨_, rfl⟩ ?_ (fun vs h => ⟨vs, h, rfl⟩)
      rintro k x vs N hx hN ⟨v, rfl⟩
      obtain ⟨hk, rfl⟩ := rangeP_at hx
      simp (maxSteps := 3000000) (disch := decide) only [↓psE, psO, forall_const, ↓iAdd, ↓iSub, ↓iMul, ↓iDiv, ↓iMod, ↓iPow, ↓iLt, ↓iLe, ↓iGt, ↓iGe, T.ne_Ratio_Vector, T.ne_Ratio_Poly, T.ne_Vector_Ratio, T.ne_Vector_Poly, T.ne_Poly_Ratio, T.ne_Poly_Vector, T.ne_Empty_ZeroBottom, T.ne_ZeroBottom_Empty, ↓reduceIte, Nat.reduceLeDiff, Nat.reduceLT, reduceCtorEq, isiInt, isiBool, isiStr, isiC, isiTup, isiLst, isiOr, nfC, inL, startP, startI, setAll, List.replicate, Nat.reduceSub, Nat.reduceAdd, List.length_map, Int.natCast_inj, Int.toNat_natCast, Int.zero_add, toD_lst, toD_tup, shaped_lst, shaped_tup, eqv_lst, eqv_tup, toD_nil, shaped_nil, eqv_nil, List.length_set, List.length_range, rangeP_len, ixN_0, ↓i_law_is, ↓i_law_alone, ↓i_law_pair, ↓i_law_refusals, ↓i_law_made_others, normT_len]
      refine ⟨by omega, by omega, ⟨lt, sf, sp, sq, hq⟩, ⟨lu, sf, sp, sq, hq⟩, ⟨lt, lu⟩, ⟨lu, lt⟩, ⟨lt, lt⟩, gt.mono (by decide), by omega, ⟨gt, by omega⟩, ?_⟩
      exact hN [_] ⟨_, rfl⟩
    rintro vs ⟨v, rfl⟩
    simp (maxSteps := 3000000) (disch := decide) only [↓psE, psO, forall_const, ↓iAdd, ↓iSub, ↓iMul, ↓iDiv, ↓iMod, ↓iPow, ↓iLt, ↓iLe, ↓iGt, ↓iGe, T.ne_Ratio_Vector, T.ne_Ratio_Poly, T.ne_Vector_Ratio, T.ne_Vector_Poly, T.ne_Poly_Ratio, T.ne_Poly_Vector, T.ne_Empty_ZeroBottom, T.ne_ZeroBottom_Empty, ↓reduceIte, Nat.reduceLeDiff, Nat.reduceLT, reduceCtorEq, isiInt, isiBool, isiStr, isiC, isiTup, isiLst, isiOr, nfC, inL, startP, startI, setAll, List.replicate, Nat.reduceSub, Nat.reduceAdd, List.length_map, Int.natCast_inj, Int.toNat_natCast, Int.zero_add, toD_lst, toD_tup, shaped_lst, shaped_tup, eqv_lst, eqv_tup, toD_nil, shaped_nil, eqv_nil, List.length_set, List.length_range, rangeP_len, ixN_0, ↓i_law_is, normT_len]
    exact ⟨by omega, by omega, h⟩

end
end L_k02
namespace L_k02
open PySem PySem.Spec PyProof.Rows L2 QL
theorem all_mk {P : Program} {w : World} {K : PySem.W.Frag} {h : Heap} {mg : Str → Option Value} {fa : Addr} (X : K.In h) (G : h.Ns mainGlobals mg) (hfa : mg "law" = some (.ref fa))
    {C_Ratio : Addr}
    {C_Vector : Addr}
    {C_Poly : Addr}
    {C_ZeroBottom : Addr}
    {C_Empty : Addr}
    {C_SizeMismatch : Addr}
    {C_LastrowsError : Addr}
    {C_BadText : Addr}
    {ii_mul_f1v : Option Value}
    {ii_mul_f2v : Option Value}
    {f_shared_part : Addr}
    {fd_shared_part : FuncData}
    {f_Ratio_init : Addr}
    {fd_Ratio_init : FuncData}
    {f_Ratio_mul : Addr}
    {fd_Ratio_mul : FuncData}
    {f_Ratio_eq : Addr}
    {fd_Ratio_eq : FuncData}
    {f_common_bottom : Addr}
    {fd_common_bottom : FuncData}
    {f_over_one_bottom : Addr}
    {fd_over_one_bottom : FuncData}
    {f_weighted_sums : Addr}
    {fd_weighted_sums : FuncData}
    {f_integer_dot : Addr}
    {fd_integer_dot : FuncData}
    {f_Vector_init : Addr}
    {fd_Vector_init : FuncData}
    {p_Vector_is_zero : Addr}
    {f_Vector_is_zero : Addr}
    {r_Vector_is_zero : List Value}
    {fd_Vector_is_zero : FuncData}
    {f_Vector_len : Addr}
    {fd_Vector_len : FuncData}
    {f_Vector_getitem : Addr}
    {fd_Vector_getitem : FuncData}
    {f_Vector_add : Addr}
    {fd_Vector_add : FuncData}
    {f_Vector_sub : Addr}
    {fd_Vector_sub : FuncData}
    {f_Vector_neg : Addr}
    {fd_Vector_neg : FuncData}
    {f_Vector_mul : Addr}
    {fd_Vector_mul : FuncData}
    {f_Vector_rmul : Addr}
    {fd_Vector_rmul : FuncData}
    {f_Vector_eq : Addr}
    {fd_Vector_eq : FuncData}
    {f_Vector_dot : Addr}
    {fd_Vector_dot : FuncData}
    {p_Vector_unit : Addr}
    {f_Vector_unit : Addr}
    {r_Vector_unit : List Value}
    {fd_Vector_unit : FuncData}
    {p_Vector_zero : Addr}
    {f_Vector_zero : Addr}
    {r_Vector_zero : List Value}
    {fd_Vector_zero : FuncData}
    {p_Vector_of : Addr}
    {f_Vector_of : Addr}
    {r_Vector_of : List Value}
    {fd_Vector_of : FuncData}
    {f_Poly_init : Addr}
    {fd_Poly_init : FuncData}
    {f_Poly_eq : Addr}
    {fd_Poly_eq : FuncData}
    {f_law_cell : Addr}
    {fd_law_cell : FuncData}
    {f_law_mix : Addr}
    {fd_law_mix : FuncData}
    {f_law_draws : Addr}
    {fd_law_draws : FuncData}
    {f_law_small : Addr}
    {fd_law_small : FuncData}
    {f_law_bottom : Addr}
    {fd_law_bottom : FuncData}
    {f_law_wide : Addr}
    {fd_law_wide : FuncData}
    {f_law_is_integer : Addr}
    {fd_law_is_integer : FuncData}
    {f_law_gcd : Addr}
    {fd_law_gcd : FuncData}
    {f_law_ratio : Addr}
    {fd_law_ratio : FuncData}
    {f_law_low : Addr}
    {fd_law_low : FuncData}
    {f_law_thing : Addr}
    {fd_law_thing : FuncData}
    {f_law_factors : Addr}
    {fd_law_factors : FuncData}
    {f_law_is_ratio : Addr}
    {fd_law_is_ratio : FuncData}
    {f_law_is : Addr}
    {fd_law_is : FuncData}
    {f_law_truth : Addr}
    {fd_law_truth : FuncData}
    {f_law_made : Addr}
    {fd_law_made : FuncData}
    {f_law_alone : Addr}
    {fd_law_alone : FuncData}
    {f_law_asked : Addr}
    {fd_law_asked : FuncData}
    {f_law_pair : Addr}
    {fd_law_pair : FuncData}
    {f_law_refusal : Addr}
    {fd_law_refusal : FuncData}
    {f_law_refusals : Addr}
    {fd_law_refusals : FuncData}
    {f_law_made_others : Addr}
    {fd_law_made_others : FuncData}
    {f_law : Addr}
    {fd_law : FuncData}
    {rr_Ratio_mulv : Option Value}
    {rr_Vector_mulv : Option Value}
    {f_xZeroBottom : Addr}
    {fd_xZeroBottom : FuncData}
    {f_xEmpty : Addr}
    {fd_xEmpty : FuncData}
    {f_xSizeMismatch : Addr}
    {fd_xSizeMismatch : FuncData}
    (a_Ratio : PySem.W.nsIn K mainGlobals "Ratio" = some (some (.ref C_Ratio)))
    (a_Vector : PySem.W.nsIn K mainGlobals "Vector" = some (some (.ref C_Vector)))
    (a_Poly : PySem.W.nsIn K mainGlobals "Poly" = some (some (.ref C_Poly)))
    (a_ZeroBottom : PySem.W.nsIn K mainGlobals "ZeroBottom" = some (some (.ref C_ZeroBottom)))
    (a_Empty : PySem.W.nsIn K mainGlobals "Empty" = some (some (.ref C_Empty)))
    (a_SizeMismatch : PySem.W.nsIn K mainGlobals "SizeMismatch" = some (some (.ref C_SizeMismatch)))
    (a_LastrowsError : PySem.W.nsIn K mainGlobals "LastrowsError" = some (some (.ref C_LastrowsError)))
    (a_BadText : PySem.W.nsIn K mainGlobals "BadText" = some (some (.ref C_BadText)))
    (og : PySem.W.specialIn K (.builtin "object.__class__") "__get__" = some (some (.builtin "getset_descriptor.__get__")))
    (ot : PySem.W.takesIn K (.builtin "object.__class__") = some true)
    (pg_Ratio : PySem.W.plainGet K C_Ratio Str.empty = true)
    (hd_Ratio : PySem.W.hasDictIn K C_Ratio = true)
    (po_Ratio : PySem.W.plainOver K C_Ratio = true)
    (sa_Ratio : PySem.W.findIn K (.ref C_Ratio) "__setattr__" = some (some (.builtin "object.__setattr__")))
    (kc_Ratio : PySem.W.findIn K (.ref C_Ratio) "__class__" = some (some (.builtin "object.__class__")))
    (mo_Ratio : PySem.W.mroIn K C_Ratio (.type "object") = some true)
    (ic_Ratio : PySem.W.isClsIn K C_Ratio = true)
    (ti_Ratio : PySem.W.typeIn K (.ref C_Ratio) = some (.type "type"))
    (sf_Ratio : PySem.W.selfFirst K C_Ratio = true)
    (ne_Ratio : PySem.W.findIn K (.ref C_Ratio) "__ne__" = some (some (.builtin "object.__ne__")))
    (mk_Ratio : PySem.W.makesIn K C_Ratio = true)
    (kp_Ratio : PySem.W.keepIn K (.ref C_Ratio) = true)
    (su_Ratio_int : PySem.W.subIn K (.type "int") (.ref C_Ratio) = some false)
    (no_Ratio_int : PySem.W.notFirst K C_Ratio (.type "int") = true)
    (su_Ratio_bool : PySem.W.subIn K (.type "bool") (.ref C_Ratio) = some false)
    (no_Ratio_bool : PySem.W.notFirst K C_Ratio (.type "bool") = true)
    (su_Ratio_str : PySem.W.subIn K (.type "str") (.ref C_Ratio) = some false)
    (no_Ratio_str : PySem.W.notFirst K C_Ratio (.type "str") = true)
    (su_Ratio_NoneType : PySem.W.subIn K (.type "NoneType") (.ref C_Ratio) = some false)
    (no_Ratio_NoneType : PySem.W.notFirst K C_Ratio (.type "NoneType") = true)
    (su_Ratio_list : PySem.W.subIn K (.type "list") (.ref C_Ratio) = some false)
    (no_Ratio_list : PySem.W.notFirst K C_Ratio (.type "list") = true)
    (su_Ratio_tuple : PySem.W.subIn K (.type "tuple") (.ref C_Ratio) = some false)
    (no_Ratio_tuple : PySem.W.notFirst K C_Ratio (.type "tuple") = true)
    (na_Ratio_top : PySem.W.findIn K (.ref C_Ratio) "top" = some none)
    (na_Ratio_bottom : PySem.W.findIn K (.ref C_Ratio) "bottom" = some none)
    (pg_Vector : PySem.W.plainGet K C_Vector Str.empty = true)
    (hd_Vector : PySem.W.hasDictIn K C_Vector = true)
    (po_Vector : PySem.W.plainOver K C_Vector = true)
    (sa_Vector : PySem.W.findIn K (.ref C_Vector) "__setattr__" = some (some (.builtin "object.__setattr__")))
    (kc_Vector : PySem.W.findIn K (.ref C_Vector) "__class__" = some (some (.builtin "object.__class__")))
    (mo_Vector : PySem.W.mroIn K C_Vector (.type "object") = some true)
    (ic_Vector : PySem.W.isClsIn K C_Vector = true)
    (ti_Vector : PySem.W.typeIn K (.ref C_Vector) = some (.type "type"))
    (sf_Vector : PySem.W.selfFirst K C_Vector = true)
    (ne_Vector : PySem.W.findIn K (.ref C_Vector) "__ne__" = some (some (.builtin "object.__ne__")))
    (mk_Vector : PySem.W.makesIn K C_Vector = true)
    (kp_Vector : PySem.W.keepIn K (.ref C_Vector) = true)
    (su_Vector_int : PySem.W.subIn K (.type "int") (.ref C_Vector) = some false)
    (no_Vector_int : PySem.W.notFirst K C_Vector (.type "int") = true)
    (su_Vector_bool : PySem.W.subIn K (.type "bool") (.ref C_Vector) = some false)
    (no_Vector_bool : PySem.W.notFirst K C_Vector (.type "bool") = true)
    (su_Vector_str : PySem.W.subIn K (.type "str") (.ref C_Vector) = some false)
    (no_Vector_str : PySem.W.notFirst K C_Vector (.type "str") = true)
    (su_Vector_NoneType : PySem.W.subIn K (.type "NoneType") (.ref C_Vector) = some false)
    (no_Vector_NoneType : PySem.W.notFirst K C_Vector (.type "NoneType") = true)
    (su_Vector_list : PySem.W.subIn K (.type "list") (.ref C_Vector) = some false)
    (no_Vector_list : PySem.W.notFirst K C_Vector (.type "list") = true)
    (su_Vector_tuple : PySem.W.subIn K (.type "tuple") (.ref C_Vector) = some false)
    (no_Vector_tuple : PySem.W.notFirst K C_Vector (.type "tuple") = true)
    (na_Vector_tops : PySem.W.findIn K (.ref C_Vector) "tops" = some none)
    (na_Vector_bottom : PySem.W.findIn K (.ref C_Vector) "bottom" = some none)
    (pg_Poly : PySem.W.plainGet K C_Poly Str.empty = true)
    (hd_Poly : PySem.W.hasDictIn K C_Poly = true)
    (po_Poly : PySem.W.plainOver K C_Poly = true)
    (sa_Poly : PySem.W.findIn K (.ref C_Poly) "__setattr__" = some (some (.builtin "object.__setattr__")))
    (kc_Poly : PySem.W.findIn K (.ref C_Poly) "__class__" = some (some (.builtin "object.__class__")))
    (mo_Poly : PySem.W.mroIn K C_Poly (.type "object") = some true)
    (ic_Poly : PySem.W.isClsIn K C_Poly = true)
    (ti_Poly : PySem.W.typeIn K (.ref C_Poly) = some (.type "type"))
    (sf_Poly : PySem.W.selfFirst K C_Poly = true)
    (ne_Poly : PySem.W.findIn K (.ref C_Poly) "__ne__" = some (some (.builtin "object.__ne__")))
    (mk_Poly : PySem.W.makesIn K C_Poly = true)
    (kp_Poly : PySem.W.keepIn K (.ref C_Poly) = true)
    (su_Poly_int : PySem.W.subIn K (.type "int") (.ref C_Poly) = some false)
    (no_Poly_int : PySem.W.notFirst K C_Poly (.type "int") = true)
    (su_Poly_bool : PySem.W.subIn K (.type "bool") (.ref C_Poly) = some false)
    (no_Poly_bool : PySem.W.notFirst K C_Poly (.type "bool") = true)
    (su_Poly_str : PySem.W.subIn K (.type "str") (.ref C_Poly) = some false)
    (no_Poly_str : PySem.W.notFirst K C_Poly (.type "str") = true)
    (su_Poly_NoneType : PySem.W.subIn K (.type "NoneType") (.ref C_Poly) = some false)
    (no_Poly_NoneType : PySem.W.notFirst K C_Poly (.type "NoneType") = true)
    (su_Poly_list : PySem.W.subIn K (.type "list") (.ref C_Poly) = some false)
    (no_Poly_list : PySem.W.notFirst K C_Poly (.type "list") = true)
    (su_Poly_tuple : PySem.W.subIn K (.type "tuple") (.ref C_Poly) = some false)
    (no_Poly_tuple : PySem.W.notFirst K C_Poly (.type "tuple") = true)
    (na_Poly_tops : PySem.W.findIn K (.ref C_Poly) "tops" = some none)
    (na_Poly_bottom : PySem.W.findIn K (.ref C_Poly) "bottom" = some none)
    (nq_Ratio_Vector : (Value.ref C_Ratio == Value.ref C_Vector) = false)
    (nq_Ratio_Poly : (Value.ref C_Ratio == Value.ref C_Poly) = false)
    (nq_Vector_Ratio : (Value.ref C_Vector == Value.ref C_Ratio) = false)
    (nq_Vector_Poly : (Value.ref C_Vector == Value.ref C_Poly) = false)
    (nq_Poly_Ratio : (Value.ref C_Poly == Value.ref C_Ratio) = false)
    (nq_Poly_Vector : (Value.ref C_Poly == Value.ref C_Vector) = false)
    (sb_Vector_Poly : PySem.W.subIn K (.ref C_Vector) (.ref C_Poly) = some false)
    (sb_Ratio_Poly : PySem.W.subIn K (.ref C_Ratio) (.ref C_Poly) = some false)
    (sb_Poly_Ratio : PySem.W.subIn K (.ref C_Poly) (.ref C_Ratio) = some false)
    (sb_Vector_Ratio : PySem.W.subIn K (.ref C_Vector) (.ref C_Ratio) = some false)
    (sb_Poly_Vector : PySem.W.subIn K (.ref C_Poly) (.ref C_Vector) = some false)
    (sb_Ratio_Vector : PySem.W.subIn K (.ref C_Ratio) (.ref C_Vector) = some false)
    (nf_Poly_Vector : PySem.W.notFirst K C_Poly (.ref C_Vector) = true)
    (nf_Poly_Ratio : PySem.W.notFirst K C_Poly (.ref C_Ratio) = true)
    (nf_Vector_Poly : PySem.W.notFirst K C_Vector (.ref C_Poly) = true)
    (nf_Vector_Ratio : PySem.W.notFirst K C_Vector (.ref C_Ratio) = true)
    (sb_Poly_bool : PySem.W.subIn K (.ref C_Poly) (.type "bool") = some false)
    (sb_Vector_bool : PySem.W.subIn K (.ref C_Vector) (.type "bool") = some false)
    (sb_Ratio_bool : PySem.W.subIn K (.ref C_Ratio) (.type "bool") = some false)
    (sb_Poly_int : PySem.W.subIn K (.ref C_Poly) (.type "int") = some false)
    (sb_Vector_int : PySem.W.subIn K (.ref C_Vector) (.type "int") = some false)
    (sb_Ratio_int : PySem.W.subIn K (.ref C_Ratio) (.type "int") = some false)
    (sb_Poly_tuple : PySem.W.subIn K (.ref C_Poly) (.type "tuple") = some false)
    (sb_Vector_tuple : PySem.W.subIn K (.ref C_Vector) (.type "tuple") = some false)
    (sb_Ratio_tuple : PySem.W.subIn K (.ref C_Ratio) (.type "tuple") = some false)
    (ii_mul_f1 : PySem.W.findIn K (.type "int") "__mul__" = some ii_mul_f1v)
    (ii_mul_f2 : PySem.W.findIn K (.type "int") "__rmul__" = some ii_mul_f2v)
    (iz_Vector : PySem.W.subIn K (.type "int") (.ref C_Vector) = some false)
    (a_shared_part : PySem.W.nsIn K mainGlobals "shared_part" = some (some (.ref f_shared_part)))
    (F_shared_part : FunA K "shared_part" "shared_part" s_shared_part [] f_shared_part fd_shared_part)
    (a_Ratio_init : PySem.W.findIn K (.ref C_Ratio) "__init__" = some (some (.ref f_Ratio_init)))
    (i_Ratio_init : PySem.W.isFn K (.ref f_Ratio_init) = true)
    (F_Ratio_init : FunA K "__init__" "Ratio.__init__" s_Ratio_init [V.int 1] f_Ratio_init fd_Ratio_init)
    (a_Ratio_mul : PySem.W.findIn K (.ref C_Ratio) "__mul__" = some (some (.ref f_Ratio_mul)))
    (i_Ratio_mul : PySem.W.isFn K (.ref f_Ratio_mul) = true)
    (F_Ratio_mul : FunA K "__mul__" "Ratio.__mul__" s_Ratio_mul [] f_Ratio_mul fd_Ratio_mul)
    (a_Ratio_eq : PySem.W.findIn K (.ref C_Ratio) "__eq__" = some (some (.ref f_Ratio_eq)))
    (i_Ratio_eq : PySem.W.isFn K (.ref f_Ratio_eq) = true)
    (F_Ratio_eq : FunA K "__eq__" "Ratio.__eq__" s_Ratio_eq [] f_Ratio_eq fd_Ratio_eq)
    (a_common_bottom : PySem.W.nsIn K mainGlobals "common_bottom" = some (some (.ref f_common_bottom)))
    (F_common_bottom : FunA K "common_bottom" "common_bottom" s_common_bottom [] f_common_bottom fd_common_bottom)
    (a_over_one_bottom : PySem.W.nsIn K mainGlobals "over_one_bottom" = some (some (.ref f_over_one_bottom)))
    (F_over_one_bottom : FunA K "over_one_bottom" "over_one_bottom" s_over_one_bottom [] f_over_one_bottom fd_over_one_bottom)
    (a_weighted_sums : PySem.W.nsIn K mainGlobals "weighted_sums" = some (some (.ref f_weighted_sums)))
    (F_weighted_sums : FunA K "weighted_sums" "weighted_sums" s_weighted_sums [] f_weighted_sums fd_weighted_sums)
    (a_integer_dot : PySem.W.nsIn K mainGlobals "integer_dot" = some (some (.ref f_integer_dot)))
    (F_integer_dot : FunA K "integer_dot" "integer_dot" s_integer_dot [] f_integer_dot fd_integer_dot)
    (a_Vector_init : PySem.W.findIn K (.ref C_Vector) "__init__" = some (some (.ref f_Vector_init)))
    (i_Vector_init : PySem.W.isFn K (.ref f_Vector_init) = true)
    (F_Vector_init : FunA K "__init__" "Vector.__init__" s_Vector_init [V.int 1] f_Vector_init fd_Vector_init)
    (a_Vector_is_zero : PySem.W.findIn K (.ref C_Vector) "is_zero" = some (some (.ref p_Vector_is_zero)))
    (g_Vector_is_zero : PySem.W.specialIn K (.ref p_Vector_is_zero) "__get__" = some (some (.builtin "property.__get__")))
    (t_Vector_is_zero : PySem.W.takesIn K (.ref p_Vector_is_zero) = some true)
    (e_Vector_is_zero : PySem.W.recIn K p_Vector_is_zero "property" = some (.ref f_Vector_is_zero :: r_Vector_is_zero))
    (F_Vector_is_zero : FunA K "is_zero" "Vector.is_zero" s_Vector_is_zero [] f_Vector_is_zero fd_Vector_is_zero)
    (a_Vector_len : PySem.W.findIn K (.ref C_Vector) "__len__" = some (some (.ref f_Vector_len)))
    (i_Vector_len : PySem.W.isFn K (.ref f_Vector_len) = true)
    (F_Vector_len : FunA K "__len__" "Vector.__len__" s_Vector_len [] f_Vector_len fd_Vector_len)
    (a_Vector_getitem : PySem.W.findIn K (.ref C_Vector) "__getitem__" = some (some (.ref f_Vector_getitem)))
    (i_Vector_getitem : PySem.W.isFn K (.ref f_Vector_getitem) = true)
    (F_Vector_getitem : FunA K "__getitem__" "Vector.__getitem__" s_Vector_getitem [] f_Vector_getitem fd_Vector_getitem)
    (a_Vector_add : PySem.W.findIn K (.ref C_Vector) "__add__" = some (some (.ref f_Vector_add)))
    (i_Vector_add : PySem.W.isFn K (.ref f_Vector_add) = true)
    (F_Vector_add : FunA K "__add__" "Vector.__add__" s_Vector_add [] f_Vector_add fd_Vector_add)
    (a_Vector_sub : PySem.W.findIn K (.ref C_Vector) "__sub__" = some (some (.ref f_Vector_sub)))
    (i_Vector_sub : PySem.W.isFn K (.ref f_Vector_sub) = true)
    (F_Vector_sub : FunA K "__sub__" "Vector.__sub__" s_Vector_sub [] f_Vector_sub fd_Vector_sub)
    (a_Vector_neg : PySem.W.findIn K (.ref C_Vector) "__neg__" = some (some (.ref f_Vector_neg)))
    (i_Vector_neg : PySem.W.isFn K (.ref f_Vector_neg) = true)
    (F_Vector_neg : FunA K "__neg__" "Vector.__neg__" s_Vector_neg [] f_Vector_neg fd_Vector_neg)
    (a_Vector_mul : PySem.W.findIn K (.ref C_Vector) "__mul__" = some (some (.ref f_Vector_mul)))
    (i_Vector_mul : PySem.W.isFn K (.ref f_Vector_mul) = true)
    (F_Vector_mul : FunA K "__mul__" "Vector.__mul__" s_Vector_mul [] f_Vector_mul fd_Vector_mul)
    (a_Vector_rmul : PySem.W.findIn K (.ref C_Vector) "__rmul__" = some (some (.ref f_Vector_rmul)))
    (i_Vector_rmul : PySem.W.isFn K (.ref f_Vector_rmul) = true)
    (F_Vector_rmul : FunA K "__rmul__" "Vector.__rmul__" s_Vector_rmul [] f_Vector_rmul fd_Vector_rmul)
    (a_Vector_eq : PySem.W.findIn K (.ref C_Vector) "__eq__" = some (some (.ref f_Vector_eq)))
    (i_Vector_eq : PySem.W.isFn K (.ref f_Vector_eq) = true)
    (F_Vector_eq : FunA K "__eq__" "Vector.__eq__" s_Vector_eq [] f_Vector_eq fd_Vector_eq)
    (a_Vector_dot : PySem.W.findIn K (.ref C_Vector) "dot" = some (some (.ref f_Vector_dot)))
    (i_Vector_dot : PySem.W.isFn K (.ref f_Vector_dot) = true)
    (F_Vector_dot : FunA K "dot" "Vector.dot" s_Vector_dot [] f_Vector_dot fd_Vector_dot)
    (sg_Vector : PySem.W.specialIn K (.ref C_Vector) "__getattribute__" = some (some (.builtin "type.__getattribute__")))
    (sr_Vector : PySem.W.readsIn K C_Vector (.type "type") = true)
    (a_Vector_unit : PySem.W.findCls K (.ref C_Vector) (.type "type") "unit" = some (.get (.builtin "staticmethod.__get__") (.ref p_Vector_unit) .none (.ref C_Vector)))
    (e_Vector_unit : PySem.W.recIn K p_Vector_unit "staticmethod" = some (.ref f_Vector_unit :: r_Vector_unit))
    (F_Vector_unit : FunA K "unit" "Vector.unit" s_Vector_unit [] f_Vector_unit fd_Vector_unit)
    (a_Vector_zero : PySem.W.findCls K (.ref C_Vector) (.type "type") "zero" = some (.get (.builtin "staticmethod.__get__") (.ref p_Vector_zero) .none (.ref C_Vector)))
    (e_Vector_zero : PySem.W.recIn K p_Vector_zero "staticmethod" = some (.ref f_Vector_zero :: r_Vector_zero))
    (F_Vector_zero : FunA K "zero" "Vector.zero" s_Vector_zero [] f_Vector_zero fd_Vector_zero)
    (a_Vector_of : PySem.W.findCls K (.ref C_Vector) (.type "type") "of" = some (.get (.builtin "staticmethod.__get__") (.ref p_Vector_of) .none (.ref C_Vector)))
    (e_Vector_of : PySem.W.recIn K p_Vector_of "staticmethod" = some (.ref f_Vector_of :: r_Vector_of))
    (F_Vector_of : FunA K "of" "Vector.of" s_Vector_of [] f_Vector_of fd_Vector_of)
    (a_Poly_init : PySem.W.findIn K (.ref C_Poly) "__init__" = some (some (.ref f_Poly_init)))
    (i_Poly_init : PySem.W.isFn K (.ref f_Poly_init) = true)
    (F_Poly_init : FunA K "__init__" "Poly.__init__" s_Poly_init [V.int 1] f_Poly_init fd_Poly_init)
    (a_Poly_eq : PySem.W.findIn K (.ref C_Poly) "__eq__" = some (some (.ref f_Poly_eq)))
    (i_Poly_eq : PySem.W.isFn K (.ref f_Poly_eq) = true)
    (F_Poly_eq : FunA K "__eq__" "Poly.__eq__" s_Poly_eq [] f_Poly_eq fd_Poly_eq)
    (a_law_cell : PySem.W.nsIn K mainGlobals "_law_cell" = some (some (.ref f_law_cell)))
    (F_law_cell : FunA K "_law_cell" "_law_cell" s_law_cell [] f_law_cell fd_law_cell)
    (a_law_mix : PySem.W.nsIn K mainGlobals "_law_mix" = some (some (.ref f_law_mix)))
    (F_law_mix : FunA K "_law_mix" "_law_mix" s_law_mix [] f_law_mix fd_law_mix)
    (a_law_draws : PySem.W.nsIn K mainGlobals "_law_draws" = some (some (.ref f_law_draws)))
    (F_law_draws : FunA K "_law_draws" "_law_draws" s_law_draws [] f_law_draws fd_law_draws)
    (a_law_small : PySem.W.nsIn K mainGlobals "_law_small" = some (some (.ref f_law_small)))
    (F_law_small : FunA K "_law_small" "_law_small" s_law_small [] f_law_small fd_law_small)
    (a_law_bottom : PySem.W.nsIn K mainGlobals "_law_bottom" = some (some (.ref f_law_bottom)))
    (F_law_bottom : FunA K "_law_bottom" "_law_bottom" s_law_bottom [] f_law_bottom fd_law_bottom)
    (a_law_wide : PySem.W.nsIn K mainGlobals "_law_wide" = some (some (.ref f_law_wide)))
    (F_law_wide : FunA K "_law_wide" "_law_wide" s_law_wide [] f_law_wide fd_law_wide)
    (a_law_is_integer : PySem.W.nsIn K mainGlobals "_law_is_integer" = some (some (.ref f_law_is_integer)))
    (F_law_is_integer : FunA K "_law_is_integer" "_law_is_integer" s_law_is_integer [] f_law_is_integer fd_law_is_integer)
    (a_law_gcd : PySem.W.nsIn K mainGlobals "_law_gcd" = some (some (.ref f_law_gcd)))
    (F_law_gcd : FunA K "_law_gcd" "_law_gcd" s_law_gcd [] f_law_gcd fd_law_gcd)
    (a_law_ratio : PySem.W.nsIn K mainGlobals "_law_ratio" = some (some (.ref f_law_ratio)))
    (F_law_ratio : FunA K "_law_ratio" "_law_ratio" s_law_ratio [] f_law_ratio fd_law_ratio)
    (a_law_low : PySem.W.nsIn K mainGlobals "_law_low" = some (some (.ref f_law_low)))
    (F_law_low : FunA K "_law_low" "_law_low" s_law_low [] f_law_low fd_law_low)
    (a_law_thing : PySem.W.nsIn K mainGlobals "_law_thing" = some (some (.ref f_law_thing)))
    (F_law_thing : FunA K "_law_thing" "_law_thing" s_law_thing [] f_law_thing fd_law_thing)
    (a_law_factors : PySem.W.nsIn K mainGlobals "_law_factors" = some (some (.ref f_law_factors)))
    (F_law_factors : FunA K "_law_factors" "_law_factors" s_law_factors [] f_law_factors fd_law_factors)
    (a_law_is_ratio : PySem.W.nsIn K mainGlobals "_law_is_ratio" = some (some (.ref f_law_is_ratio)))
    (F_law_is_ratio : FunA K "_law_is_ratio" "_law_is_ratio" s_law_is_ratio [] f_law_is_ratio fd_law_is_ratio)
    (a_law_is : PySem.W.nsIn K mainGlobals "_law_is" = some (some (.ref f_law_is)))
    (F_law_is : FunA K "_law_is" "_law_is" s_law_is [] f_law_is fd_law_is)
    (a_law_truth : PySem.W.nsIn K mainGlobals "_law_truth" = some (some (.ref f_law_truth)))
    (F_law_truth : FunA K "_law_truth" "_law_truth" s_law_truth [] f_law_truth fd_law_truth)
    (a_law_made : PySem.W.nsIn K mainGlobals "_law_made" = some (some (.ref f_law_made)))
    (F_law_made : FunA K "_law_made" "_law_made" s_law_made [] f_law_made fd_law_made)
    (a_law_alone : PySem.W.nsIn K mainGlobals "_law_alone" = some (some (.ref f_law_alone)))
    (F_law_alone : FunA K "_law_alone" "_law_alone" s_law_alone [] f_law_alone fd_law_alone)
    (a_law_asked : PySem.W.nsIn K mainGlobals "_law_asked" = some (some (.ref f_law_asked)))
    (F_law_asked : FunA K "_law_asked" "_law_asked" s_law_asked [] f_law_asked fd_law_asked)
    (a_law_pair : PySem.W.nsIn K mainGlobals "_law_pair" = some (some (.ref f_law_pair)))
    (F_law_pair : FunA K "_law_pair" "_law_pair" s_law_pair [] f_law_pair fd_law_pair)
    (a_law_refusal : PySem.W.nsIn K mainGlobals "_law_refusal" = some (some (.ref f_law_refusal)))
    (F_law_refusal : FunA K "_law_refusal" "_law_refusal" s_law_refusal [] f_law_refusal fd_law_refusal)
    (a_law_refusals : PySem.W.nsIn K mainGlobals "_law_refusals" = some (some (.ref f_law_refusals)))
    (F_law_refusals : FunA K "_law_refusals" "_law_refusals" s_law_refusals [] f_law_refusals fd_law_refusals)
    (a_law_made_others : PySem.W.nsIn K mainGlobals "_law_made_others" = some (some (.ref f_law_made_others)))
    (F_law_made_others : FunA K "_law_made_others" "_law_made_others" s_law_made_others [] f_law_made_others fd_law_made_others)
    (a_law : PySem.W.nsIn K mainGlobals "law" = some (some (.ref f_law)))
    (F_law : FunA K "law" "law" s_law [] f_law fd_law)
    (rr_Ratio_mul : PySem.W.findIn K (.ref C_Ratio) "__rmul__" = some rr_Ratio_mulv)
    (rr_Ratio_mulp : rr_Ratio_mulv = none ∨ ∃ g : Addr, rr_Ratio_mulv = some (.ref g))
    (rr_Vector_mul : PySem.W.findIn K (.ref C_Vector) "__rmul__" = some rr_Vector_mulv)
    (rr_Vector_mulp : rr_Vector_mulv = none ∨ ∃ g : Addr, rr_Vector_mulv = some (.ref g))
    (fin_Vector_getitem : PySem.W.fnIn K f_Vector_getitem = true)
    (xL_ZeroBottom : ∃ nm q N bs bm sn sub ab col dd k0 k1 k2 k3 k5, K.lookup C_ZeroBottom = some (excClassObj nm q C_ZeroBottom N bs bm true sn sub ab col dd k0 k1 k2 k3 k5 "ValueError.__new__") ∧ PySem.HandSPX.refsVE bm = true)
    (ic_ZeroBottom : PySem.W.isClsIn K C_ZeroBottom = true)
    (ti_ZeroBottom : PySem.W.typeIn K (.ref C_ZeroBottom) = some (.type "type"))
    (xsa_ZeroBottom : PySem.W.findIn K (.ref C_ZeroBottom) "__setattr__" = some (some (.builtin "object.__setattr__")))
    (xb_ZeroBottom : PySem.W.subIn K (.ref C_ZeroBottom) (.type "BaseException") = some true)
    (xk_ZeroBottom : PySem.W.keepIn K (.ref C_ZeroBottom) = true)
    (xg_ZeroBottom : PySem.W.findIn K (.ref C_ZeroBottom) "__getattribute__" = some (some (.builtin "BaseException.__getattribute__")))
    (xh_ZeroBottom : PySem.W.findIn K (.ref C_ZeroBottom) "__getattr__" = some none)
    (xd_ZeroBottom : PySem.W.hasDictIn K C_ZeroBottom = true)
    (xcl_ZeroBottom : PySem.W.findIn K (.ref C_ZeroBottom) "__class__" = some (some (.builtin "object.__class__")))
    (xmo_ZeroBottom : PySem.W.mroIn K C_ZeroBottom (.type "object") = some true)
    (xs_ZeroBottom : PySem.W.subIn K (.ref C_ZeroBottom) (.ref C_ZeroBottom) = some true)
    (a_xZeroBottom : PySem.W.findIn K (.ref C_ZeroBottom) "__init__" = some (some (.ref f_xZeroBottom)))
    (t_xZeroBottom : PySem.W.typeIn K (.ref f_xZeroBottom) = some (.type "function"))
    (F_xZeroBottom : FunA K "__init__" "ZeroBottom.__init__" s_xZeroBottom [] f_xZeroBottom fd_xZeroBottom)
    (xv_ZeroBottom_Empty : PySem.W.subIn K (.ref C_ZeroBottom) (.ref C_Empty) = some false)
    (xn_ZeroBottom_word : PySem.W.findIn K (.ref C_ZeroBottom) "word" = some none)
    (ic_LastrowsError : PySem.W.isClsIn K C_LastrowsError = true)
    (ti_LastrowsError : PySem.W.typeIn K (.ref C_LastrowsError) = some (.type "type"))
    (xu_ZeroBottom_LastrowsError : PySem.W.subIn K (.ref C_ZeroBottom) (.ref C_LastrowsError) = some true)
    (xu_ZeroBottom_ValueError : PySem.W.subIn K (.ref C_ZeroBottom) (.type "ValueError") = some true)
    (ic_Empty : PySem.W.isClsIn K C_Empty = true)
    (ti_Empty : PySem.W.typeIn K (.ref C_Empty) = some (.type "type"))
    (xu_ZeroBottom_Empty : PySem.W.subIn K (.ref C_ZeroBottom) (.ref C_Empty) = some false)
    (xq_ZeroBottom_Empty : (Value.ref C_ZeroBottom == Value.ref C_Empty) = false)
    (ic_BadText : PySem.W.isClsIn K C_BadText = true)
    (ti_BadText : PySem.W.typeIn K (.ref C_BadText) = some (.type "type"))
    (xu_ZeroBottom_BadText : PySem.W.subIn K (.ref C_ZeroBottom) (.ref C_BadText) = some false)
    (xq_ZeroBottom_BadText : (Value.ref C_ZeroBottom == Value.ref C_BadText) = false)
    (xL_Empty : ∃ nm q N bs bm sn sub ab col dd k0 k1 k2 k3 k5, K.lookup C_Empty = some (excClassObj nm q C_Empty N bs bm true sn sub ab col dd k0 k1 k2 k3 k5 "ValueError.__new__") ∧ PySem.HandSPX.refsVE bm = true)
    (xsa_Empty : PySem.W.findIn K (.ref C_Empty) "__setattr__" = some (some (.builtin "object.__setattr__")))
    (xb_Empty : PySem.W.subIn K (.ref C_Empty) (.type "BaseException") = some true)
    (xk_Empty : PySem.W.keepIn K (.ref C_Empty) = true)
    (xg_Empty : PySem.W.findIn K (.ref C_Empty) "__getattribute__" = some (some (.builtin "BaseException.__getattribute__")))
    (xh_Empty : PySem.W.findIn K (.ref C_Empty) "__getattr__" = some none)
    (xd_Empty : PySem.W.hasDictIn K C_Empty = true)
    (xcl_Empty : PySem.W.findIn K (.ref C_Empty) "__class__" = some (some (.builtin "object.__class__")))
    (xmo_Empty : PySem.W.mroIn K C_Empty (.type "object") = some true)
    (xs_Empty : PySem.W.subIn K (.ref C_Empty) (.ref C_Empty) = some true)
    (a_xEmpty : PySem.W.findIn K (.ref C_Empty) "__init__" = some (some (.ref f_xEmpty)))
    (t_xEmpty : PySem.W.typeIn K (.ref f_xEmpty) = some (.type "function"))
    (F_xEmpty : FunA K "__init__" "Empty.__init__" s_xEmpty [] f_xEmpty fd_xEmpty)
    (xv_Empty_ZeroBottom : PySem.W.subIn K (.ref C_Empty) (.ref C_ZeroBottom) = some false)
    (xn_Empty_word : PySem.W.findIn K (.ref C_Empty) "word" = some none)
    (xu_Empty_LastrowsError : PySem.W.subIn K (.ref C_Empty) (.ref C_LastrowsError) = some true)
    (xu_Empty_ValueError : PySem.W.subIn K (.ref C_Empty) (.type "ValueError") = some true)
    (xu_Empty_ZeroBottom : PySem.W.subIn K (.ref C_Empty) (.ref C_ZeroBottom) = some false)
    (xq_Empty_ZeroBottom : (Value.ref C_Empty == Value.ref C_ZeroBottom) = false)
    (xu_Empty_BadText : PySem.W.subIn K (.ref C_Empty) (.ref C_BadText) = some false)
    (xq_Empty_BadText : (Value.ref C_Empty == Value.ref C_BadText) = false)
    (xL_SizeMismatch : ∃ nm q N bs bm sn sub ab col dd k0 k1 k2 k3 k5, K.lookup C_SizeMismatch = some (excClassObj nm q C_SizeMismatch N bs bm true sn sub ab col dd k0 k1 k2 k3 k5 "ValueError.__new__") ∧ PySem.HandSPX.refsVE bm = true)
    (ic_SizeMismatch : PySem.W.isClsIn K C_SizeMismatch = true)
    (ti_SizeMismatch : PySem.W.typeIn K (.ref C_SizeMismatch) = some (.type "type"))
    (xsa_SizeMismatch : PySem.W.findIn K (.ref C_SizeMismatch) "__setattr__" = some (some (.builtin "object.__setattr__")))
    (xb_SizeMismatch : PySem.W.subIn K (.ref C_SizeMismatch) (.type "BaseException") = some true)
    (xk_SizeMismatch : PySem.W.keepIn K (.ref C_SizeMismatch) = true)
    (xg_SizeMismatch : PySem.W.findIn K (.ref C_SizeMismatch) "__getattribute__" = some (some (.builtin "BaseException.__getattribute__")))
    (xh_SizeMismatch : PySem.W.findIn K (.ref C_SizeMismatch) "__getattr__" = some none)
    (xd_SizeMismatch : PySem.W.hasDictIn K C_SizeMismatch = true)
    (xcl_SizeMismatch : PySem.W.findIn K (.ref C_SizeMismatch) "__class__" = some (some (.builtin "object.__class__")))
    (xmo_SizeMismatch : PySem.W.mroIn K C_SizeMismatch (.type "object") = some true)
    (xs_SizeMismatch : PySem.W.subIn K (.ref C_SizeMismatch) (.ref C_SizeMismatch) = some true)
    (a_xSizeMismatch : PySem.W.findIn K (.ref C_SizeMismatch) "__init__" = some (some (.ref f_xSizeMismatch)))
    (t_xSizeMismatch : PySem.W.typeIn K (.ref f_xSizeMismatch) = some (.type "function"))
    (F_xSizeMismatch : FunA K "__init__" "SizeMismatch.__init__" s_xSizeMismatch [] f_xSizeMismatch fd_xSizeMismatch)
    (xn_SizeMismatch_left : PySem.W.findIn K (.ref C_SizeMismatch) "left" = some none)
    (xn_SizeMismatch_right : PySem.W.findIn K (.ref C_SizeMismatch) "right" = some none)
    (xn_SizeMismatch_word : PySem.W.findIn K (.ref C_SizeMismatch) "word" = some none)
    (xu_SizeMismatch_LastrowsError : PySem.W.subIn K (.ref C_SizeMismatch) (.ref C_LastrowsError) = some true)
    (xu_SizeMismatch_ValueError : PySem.W.subIn K (.ref C_SizeMismatch) (.type "ValueError") = some true)
    (xu_SizeMismatch_Empty : PySem.W.subIn K (.ref C_SizeMismatch) (.ref C_Empty) = some false)
    (xq_SizeMismatch_Empty : (Value.ref C_SizeMismatch == Value.ref C_Empty) = false)
    (nq_Empty_ZeroBottom : (Value.ref C_Empty == Value.ref C_ZeroBottom) = false)
    (nq_ZeroBottom_Empty : (Value.ref C_ZeroBottom == Value.ref C_Empty) = false)
    (b_NotImplemented : PySem.W.nsIn K mainGlobals "NotImplemented" = some none)
    (b_ValueError : PySem.W.nsIn K mainGlobals "ValueError" = some none)
    (b_abs : PySem.W.nsIn K mainGlobals "abs" = some none)
    (b_all : PySem.W.nsIn K mainGlobals "all" = some none)
    (b_bool : PySem.W.nsIn K mainGlobals "bool" = some none)
    (b_int : PySem.W.nsIn K mainGlobals "int" = some none)
    (b_isinstance : PySem.W.nsIn K mainGlobals "isinstance" = some none)
    (b_len : PySem.W.nsIn K mainGlobals "len" = some none)
    (b_list : PySem.W.nsIn K mainGlobals "list" = some none)
    (b_range : PySem.W.nsIn K mainGlobals "range" = some none)
    (b_sum : PySem.W.nsIn K mainGlobals "sum" = some none)
    (b_tuple : PySem.W.nsIn K mainGlobals "tuple" = some none)
    (b_zip : PySem.W.nsIn K mainGlobals "zip" = some none)
    (m_gcd : PySem.W.nsIn K mainGlobals "gcd" = some (some (.builtin "math.gcd")))
    (m_lcm : PySem.W.nsIn K mainGlobals "lcm" = some (some (.builtin "math.lcm")))
    : ∃ fd : FuncData, (∀ (s : Shared) (v : Value), BindsTo s fd ⟨[v], []⟩ [("script", v)]) ∧ ∀ base : Heap, K.In base → base.Ns mainGlobals mg → FnOk P w K mg base (L2.CX P w) 8 fa fd ["script"] (spP K P_law0) := by
  have e : f_law = fa := Value.ref.inj (Option.some.inj ((PySem.W.mg_of X G a_law).symm.trans hfa))
  subst e
  have B_shared_part := binds_a0 (ps := ["tops", "bottom"]) F_shared_part fun _ _ _ _ _ _ us hl => match us, hl with | [_, _], _ => rfl
  have B_Ratio_init_0 := F_Ratio_init.binds1 (ps := ["self", "top", "bottom"]) 3 1 (by intro z; cases z) rfl fun T kV doc pm an cdv ct us its hu hi => match us, its, hu, hi with | [_, _, _], [_], _, _ => ⟨_, rfl, rfl⟩
  have B_Ratio_init : Binds K fd_Ratio_init ["self", "top", "bottom"] [] := by
    obtain ⟨ds, h1, h2⟩ := B_Ratio_init_0
    cases h1
    exact h2
  have B_Ratio_init_1 := F_Ratio_init.binds1 (ps := ["self", "top", "bottom"]) 2 0 (by intro z; cases z) rfl fun T kV doc pm an cdv ct us its hu hi => match us, its, hu, hi with | [_, _], [_], _, _ => ⟨_, rfl, rfl⟩
  have B_Ratio_mul := binds_a0 (ps := ["self", "other"]) F_Ratio_mul fun _ _ _ _ _ _ us hl => match us, hl with | [_, _], _ => rfl
  have B_Ratio_eq := binds_a0 (ps := ["self", "other"]) F_Ratio_eq fun _ _ _ _ _ _ us hl => match us, hl with | [_, _], _ => rfl
  have B_common_bottom := binds_a0 (ps := ["first", "second"]) F_common_bottom fun _ _ _ _ _ _ us hl => match us, hl with | [_, _], _ => rfl
  have B_over_one_bottom := binds_a0 (ps := ["ratios"]) F_over_one_bottom fun _ _ _ _ _ _ us hl => match us, hl with | [_], _ => rfl
  have B_weighted_sums := binds_a0 (ps := ["first", "left", "second", "right"]) F_weighted_sums fun _ _ _ _ _ _ us hl => match us, hl with | [_, _, _, _], _ => rfl
  have B_integer_dot := binds_a0 (ps := ["left", "right"]) F_integer_dot fun _ _ _ _ _ _ us hl => match us, hl with | [_, _], _ => rfl
  have B_Vector_init_0 := F_Vector_init.binds1 (ps := ["self", "tops", "bottom"]) 3 1 (by intro z; cases z) rfl fun T kV doc pm an cdv ct us its hu hi => match us, its, hu, hi with | [_, _, _], [_], _, _ => ⟨_, rfl, rfl⟩
  have B_Vector_init : Binds K fd_Vector_init ["self", "tops", "bottom"] [] := by
    obtain ⟨ds, h1, h2⟩ := B_Vector_init_0
    cases h1
    exact h2
  have B_Vector_init_1 := F_Vector_init.binds1 (ps := ["self", "tops", "bottom"]) 2 0 (by intro z; cases z) rfl fun T kV doc pm an cdv ct us its hu hi => match us, its, hu, hi with | [_, _], [_], _, _ => ⟨_, rfl, rfl⟩
  have B_Vector_is_zero := binds_a0 (ps := ["self"]) F_Vector_is_zero fun _ _ _ _ _ _ us hl => match us, hl with | [_], _ => rfl
  have B_Vector_len := binds_a0 (ps := ["self"]) F_Vector_len fun _ _ _ _ _ _ us hl => match us, hl with | [_], _ => rfl
  have B_Vector_getitem := binds_a0 (ps := ["self", "at"]) F_Vector_getitem fun _ _ _ _ _ _ us hl => match us, hl with | [_, _], _ => rfl
  have B_Vector_add := binds_a0 (ps := ["self", "other"]) F_Vector_add fun _ _ _ _ _ _ us hl => match us, hl with | [_, _], _ => rfl
  have B_Vector_sub := binds_a0 (ps := ["self", "other"]) F_Vector_sub fun _ _ _ _ _ _ us hl => match us, hl with | [_, _], _ => rfl
  have B_Vector_neg := binds_a0 (ps := ["self"]) F_Vector_neg fun _ _ _ _ _ _ us hl => match us, hl with | [_], _ => rfl
  have B_Vector_mul := binds_a0 (ps := ["self", "factor"]) F_Vector_mul fun _ _ _ _ _ _ us hl => match us, hl with | [_, _], _ => rfl
  have B_Vector_rmul := binds_a0 (ps := ["self", "factor"]) F_Vector_rmul fun _ _ _ _ _ _ us hl => match us, hl with | [_, _], _ => rfl
  have B_Vector_eq := binds_a0 (ps := ["self", "other"]) F_Vector_eq fun _ _ _ _ _ _ us hl => match us, hl with | [_, _], _ => rfl
  have B_Vector_dot := binds_a0 (ps := ["self", "other"]) F_Vector_dot fun _ _ _ _ _ _ us hl => match us, hl with | [_, _], _ => rfl
  have B_Vector_unit := binds_a0 (ps := ["size", "place"]) F_Vector_unit fun _ _ _ _ _ _ us hl => match us, hl with | [_, _], _ => rfl
  have B_Vector_zero := binds_a0 (ps := ["size"]) F_Vector_zero fun _ _ _ _ _ _ us hl => match us, hl with | [_], _ => rfl
  have B_Vector_of := binds_a0 (ps := ["ratios"]) F_Vector_of fun _ _ _ _ _ _ us hl => match us, hl with | [_], _ => rfl
  have B_Poly_init_0 := F_Poly_init.binds1 (ps := ["self", "tops", "bottom"]) 3 1 (by intro z; cases z) rfl fun T kV doc pm an cdv ct us its hu hi => match us, its, hu, hi with | [_, _, _], [_], _, _ => ⟨_, rfl, rfl⟩
  have B_Poly_init : Binds K fd_Poly_init ["self", "tops", "bottom"] [] := by
    obtain ⟨ds, h1, h2⟩ := B_Poly_init_0
    cases h1
    exact h2
  have B_Poly_init_1 := F_Poly_init.binds1 (ps := ["self", "tops", "bottom"]) 2 0 (by intro z; cases z) rfl fun T kV doc pm an cdv ct us its hu hi => match us, its, hu, hi with | [_, _], [_], _, _ => ⟨_, rfl, rfl⟩
  have B_Poly_eq := binds_a0 (ps := ["self", "other"]) F_Poly_eq fun _ _ _ _ _ _ us hl => match us, hl with | [_, _], _ => rfl
  have B_law_cell := binds_a0 (ps := ["script", "k"]) F_law_cell fun _ _ _ _ _ _ us hl => match us, hl with | [_, _], _ => rfl
  have B_law_mix := binds_a0 (ps := ["cell", "k", "at"]) F_law_mix fun _ _ _ _ _ _ us hl => match us, hl with | [_, _, _], _ => rfl
  have B_law_draws := binds_a0 (ps := ["script", "k", "many"]) F_law_draws fun _ _ _ _ _ _ us hl => match us, hl with | [_, _, _], _ => rfl
  have B_law_small := binds_a0 (ps := ["d"]) F_law_small fun _ _ _ _ _ _ us hl => match us, hl with | [_], _ => rfl
  have B_law_bottom := binds_a0 (ps := ["d"]) F_law_bottom fun _ _ _ _ _ _ us hl => match us, hl with | [_], _ => rfl
  have B_law_wide := binds_a0 (ps := ["script", "k"]) F_law_wide fun _ _ _ _ _ _ us hl => match us, hl with | [_, _], _ => rfl
  have B_law_is_integer := binds_a0 (ps := ["x"]) F_law_is_integer fun _ _ _ _ _ _ us hl => match us, hl with | [_], _ => rfl
  have B_law_gcd := binds_a0 (ps := ["a", "b"]) F_law_gcd fun _ _ _ _ _ _ us hl => match us, hl with | [_, _], _ => rfl
  have B_law_ratio := binds_a0 (ps := ["top", "bottom"]) F_law_ratio fun _ _ _ _ _ _ us hl => match us, hl with | [_, _], _ => rfl
  have B_law_low := binds_a0 (ps := ["tops", "bottom"]) F_law_low fun _ _ _ _ _ _ us hl => match us, hl with | [_, _], _ => rfl
  have B_law_thing := binds_a0 (ps := ["script", "which", "size"]) F_law_thing fun _ _ _ _ _ _ us hl => match us, hl with | [_, _, _], _ => rfl
  have B_law_factors := binds_a0 (ps := ["script", "draws"]) F_law_factors fun _ _ _ _ _ _ us hl => match us, hl with | [_, _], _ => rfl
  have B_law_is_ratio := binds_a0 (ps := ["x", "pair"]) F_law_is_ratio fun _ _ _ _ _ _ us hl => match us, hl with | [_, _], _ => rfl
  have B_law_is := binds_a0 (ps := ["v", "low"]) F_law_is fun _ _ _ _ _ _ us hl => match us, hl with | [_, _], _ => rfl
  have B_law_truth := binds_a0 (ps := ["x", "due"]) F_law_truth fun _ _ _ _ _ _ us hl => match us, hl with | [_, _], _ => rfl
  have B_law_made := binds_a0 (ps := ["thing"]) F_law_made fun _ _ _ _ _ _ us hl => match us, hl with | [_], _ => rfl
  have B_law_alone := binds_a0 (ps := ["v", "low", "number", "pair"]) F_law_alone fun _ _ _ _ _ _ us hl => match us, hl with | [_, _, _, _], _ => rfl
  have B_law_asked := binds_a0 (ps := ["v", "w", "road"]) F_law_asked fun _ _ _ _ _ _ us hl => match us, hl with | [_, _, _], _ => rfl
  have B_law_pair := binds_a0 (ps := ["v", "w", "a", "b"]) F_law_pair fun _ _ _ _ _ _ us hl => match us, hl with | [_, _, _, _], _ => rfl
  have B_law_refusal := binds_a0 (ps := ["tops", "bottom", "road"]) F_law_refusal fun _ _ _ _ _ _ us hl => match us, hl with | [_, _, _], _ => rfl
  have B_law_refusals := binds_a0 (ps := ["thing"]) F_law_refusals fun _ _ _ _ _ _ us hl => match us, hl with | [_], _ => rfl
  have B_law_made_others := binds_a0 (ps := ["thing", "low", "place"]) F_law_made_others fun _ _ _ _ _ _ us hl => match us, hl with | [_, _, _], _ => rfl
  have B_law := binds_a0 (ps := ["script"]) F_law fun _ _ _ _ _ _ us hl => match us, hl with | [_], _ => rfl
  have B_xZeroBottom := binds_a0 (ps := ["self"]) F_xZeroBottom fun _ _ _ _ _ _ us hl => match us, hl with | [_], _ => rfl
  have B_xEmpty := binds_a0 (ps := ["self"]) F_xEmpty fun _ _ _ _ _ _ us hl => match us, hl with | [_], _ => rfl
  have B_xSizeMismatch := binds_a0 (ps := ["self", "left", "right"]) F_xSizeMismatch fun _ _ _ _ _ _ us hl => match us, hl with | [_, _, _], _ => rfl
  let a : Ad := { C_Ratio := C_Ratio, C_Vector := C_Vector, C_Poly := C_Poly, C_ZeroBottom := C_ZeroBottom, C_Empty := C_Empty, C_SizeMismatch := C_SizeMismatch, C_LastrowsError := C_LastrowsError, C_BadText := C_BadText, f_shared_part := f_shared_part, f_Ratio_init := f_Ratio_init, f_Ratio_mul := f_Ratio_mul, f_Ratio_eq := f_Ratio_eq, f_common_bottom := f_common_bottom, f_over_one_bottom := f_over_one_bottom, f_weighted_sums := f_weighted_sums, f_integer_dot := f_integer_dot, f_Vector_init := f_Vector_init, f_Vector_is_zero := f_Vector_is_zero, f_Vector_len := f_Vector_len, f_Vector_getitem := f_Vector_getitem, f_Vector_add := f_Vector_add, f_Vector_sub := f_Vector_sub, f_Vector_neg := f_Vector_neg, f_Vector_mul := f_Vector_mul, f_Vector_rmul := f_Vector_rmul, f_Vector_eq := f_Vector_eq, f_Vector_dot := f_Vector_dot, f_Vector_unit := f_Vector_unit, f_Vector_zero := f_Vector_zero, f_Vector_of := f_Vector_of, f_Poly_init := f_Poly_init, f_Poly_eq := f_Poly_eq, f_law_cell := f_law_cell, f_law_mix := f_law_mix, f_law_draws := f_law_draws, f_law_small := f_law_small, f_law_bottom := f_law_bottom, f_law_wide := f_law_wide, f_law_is_integer := f_law_is_integer, f_law_gcd := f_law_gcd, f_law_ratio := f_law_ratio, f_law_low := f_law_low, f_law_thing := f_law_thing, f_law_factors := f_law_factors, f_law_is_ratio := f_law_is_ratio, f_law_is := f_law_is, f_law_truth := f_law_truth, f_law_made := f_law_made, f_law_alone := f_law_alone, f_law_asked := f_law_asked, f_law_pair := f_law_pair, f_law_refusal := f_law_refusal, f_law_refusals := f_law_refusals, f_law_made_others := f_law_made_others, f_law := f_law, f_xZeroBottom := f_xZeroBottom, f_xEmpty := f_xEmpty, f_xSizeMismatch := f_xSizeMismatch }
  have T : Txt K mg a := { mg_Ratio := (PySem.W.mg_of X G a_Ratio), cl_Ratio := (⟨pg_Ratio, hd_Ratio, po_Ratio, sa_Ratio⟩), is_Ratio := (⟨⟨pg_Ratio, hd_Ratio, po_Ratio, sa_Ratio⟩, kc_Ratio, og, ot, mo_Ratio⟩), kc_Ratio := (kitc_of ic_Ratio ti_Ratio su_Ratio_int su_Ratio_bool su_Ratio_str su_Ratio_NoneType su_Ratio_list su_Ratio_tuple), nf_Ratio := (⟨no_Ratio_int, no_Ratio_bool, no_Ratio_str, no_Ratio_NoneType, no_Ratio_list, no_Ratio_tuple⟩), sf_Ratio := (sf_Ratio), ne_Ratio := (ne_Ratio), mk_Ratio := (⟨mk_Ratio, a_Ratio_init, i_Ratio_init, kp_Ratio⟩), na_Ratio_top := (na_Ratio_top), na_Ratio_bottom := (na_Ratio_bottom), mg_Vector := (PySem.W.mg_of X G a_Vector), cl_Vector := (⟨pg_Vector, hd_Vector, po_Vector, sa_Vector⟩), is_Vector := (⟨⟨pg_Vector, hd_Vector, po_Vector, sa_Vector⟩, kc_Vector, og, ot, mo_Vector⟩), kc_Vector := (kitc_of ic_Vector ti_Vector su_Vector_int su_Vector_bool su_Vector_str su_Vector_NoneType su_Vector_list su_Vector_tuple), nf_Vector := (⟨no_Vector_int, no_Vector_bool, no_Vector_str, no_Vector_NoneType, no_Vector_list, no_Vector_tuple⟩), sf_Vector := (sf_Vector), ne_Vector := (ne_Vector), mk_Vector := (⟨mk_Vector, a_Vector_init, i_Vector_init, kp_Vector⟩), na_Vector_tops := (na_Vector_tops), na_Vector_bottom := (na_Vector_bottom), mg_Poly := (PySem.W.mg_of X G a_Poly), cl_Poly := (⟨pg_Poly, hd_Poly, po_Poly, sa_Poly⟩), is_Poly := (⟨⟨pg_Poly, hd_Poly, po_Poly, sa_Poly⟩, kc_Poly, og, ot, mo_Poly⟩), kc_Poly := (kitc_of ic_Poly ti_Poly su_Poly_int su_Poly_bool su_Poly_str su_Poly_NoneType su_Poly_list su_Poly_tuple), nf_Poly := (⟨no_Poly_int, no_Poly_bool, no_Poly_str, no_Poly_NoneType, no_Poly_list, no_Poly_tuple⟩), sf_Poly := (sf_Poly), ne_Poly := (ne_Poly), mk_Poly := (⟨mk_Poly, a_Poly_init, i_Poly_init, kp_Poly⟩), na_Poly_tops := (na_Poly_tops), na_Poly_bottom := (na_Poly_bottom), ne_Ratio_Vector := (eq_false (fun z => by have z : C_Ratio = C_Vector := z; rw [z, beq_self_eq_true] at nq_Ratio_Vector; cases nq_Ratio_Vector)), ne_Ratio_Poly := (eq_false (fun z => by have z : C_Ratio = C_Poly := z; rw [z, beq_self_eq_true] at nq_Ratio_Poly; cases nq_Ratio_Poly)), ne_Vector_Ratio := (eq_false (fun z => by have z : C_Vector = C_Ratio := z; rw [z, beq_self_eq_true] at nq_Vector_Ratio; cases nq_Vector_Ratio)), ne_Vector_Poly := (eq_false (fun z => by have z : C_Vector = C_Poly := z; rw [z, beq_self_eq_true] at nq_Vector_Poly; cases nq_Vector_Poly)), ne_Poly_Ratio := (eq_false (fun z => by have z : C_Poly = C_Ratio := z; rw [z, beq_self_eq_true] at nq_Poly_Ratio; cases nq_Poly_Ratio)), ne_Poly_Vector := (eq_false (fun z => by have z : C_Poly = C_Vector := z; rw [z, beq_self_eq_true] at nq_Poly_Vector; cases nq_Poly_Vector)), ko_Poly := ((kito_cons ⟨⟨⟨pg_Ratio, hd_Ratio, po_Ratio, sa_Ratio⟩, kc_Ratio, og, ot, mo_Ratio⟩, kit_ref ic_Poly ti_Poly sb_Ratio_Poly (.inr nq_Ratio_Poly)⟩ (kito_cons ⟨⟨⟨pg_Vector, hd_Vector, po_Vector, sa_Vector⟩, kc_Vector, og, ot, mo_Vector⟩, kit_ref ic_Poly ti_Poly sb_Vector_Poly (.inr nq_Vector_Poly)⟩ kito_nil))), ko_Ratio := ((kito_cons ⟨⟨⟨pg_Vector, hd_Vector, po_Vector, sa_Vector⟩, kc_Vector, og, ot, mo_Vector⟩, kit_ref ic_Ratio ti_Ratio sb_Vector_Ratio (.inr nq_Vector_Ratio)⟩ (kito_cons ⟨⟨⟨pg_Poly, hd_Poly, po_Poly, sa_Poly⟩, kc_Poly, og, ot, mo_Poly⟩, kit_ref ic_Ratio ti_Ratio sb_Poly_Ratio (.inr nq_Poly_Ratio)⟩ kito_nil))), ko_Vector := ((kito_cons ⟨⟨⟨pg_Ratio, hd_Ratio, po_Ratio, sa_Ratio⟩, kc_Ratio, og, ot, mo_Ratio⟩, kit_ref ic_Vector ti_Vector sb_Ratio_Vector (.inr nq_Ratio_Vector)⟩ (kito_cons ⟨⟨⟨pg_Poly, hd_Poly, po_Poly, sa_Poly⟩, kc_Poly, og, ot, mo_Poly⟩, kit_ref ic_Vector ti_Vector sb_Poly_Vector (.inr nq_Poly_Vector)⟩ kito_nil))), nfo_Poly := ((nfo_cons ⟨⟨⟨pg_Ratio, hd_Ratio, po_Ratio, sa_Ratio⟩, kc_Ratio, og, ot, mo_Ratio⟩, nf_Poly_Ratio⟩ (nfo_cons ⟨⟨⟨pg_Vector, hd_Vector, po_Vector, sa_Vector⟩, kc_Vector, og, ot, mo_Vector⟩, nf_Poly_Vector⟩ nfo_nil))), nfo_Vector := ((nfo_cons ⟨⟨⟨pg_Ratio, hd_Ratio, po_Ratio, sa_Ratio⟩, kc_Ratio, og, ot, mo_Ratio⟩, nf_Vector_Ratio⟩ (nfo_cons ⟨⟨⟨pg_Poly, hd_Poly, po_Poly, sa_Poly⟩, kc_Poly, og, ot, mo_Poly⟩, nf_Vector_Poly⟩ nfo_nil))), ko_bool := ((kito_cons ⟨⟨⟨pg_Ratio, hd_Ratio, po_Ratio, sa_Ratio⟩, kc_Ratio, og, ot, mo_Ratio⟩, kit_typ sb_Ratio_bool⟩ (kito_cons ⟨⟨⟨pg_Vector, hd_Vector, po_Vector, sa_Vector⟩, kc_Vector, og, ot, mo_Vector⟩, kit_typ sb_Vector_bool⟩ (kito_cons ⟨⟨⟨pg_Poly, hd_Poly, po_Poly, sa_Poly⟩, kc_Poly, og, ot, mo_Poly⟩, kit_typ sb_Poly_bool⟩ kito_nil)))), ko_int := ((kito_cons ⟨⟨⟨pg_Ratio, hd_Ratio, po_Ratio, sa_Ratio⟩, kc_Ratio, og, ot, mo_Ratio⟩, kit_typ sb_Ratio_int⟩ (kito_cons ⟨⟨⟨pg_Vector, hd_Vector, po_Vector, sa_Vector⟩, kc_Vector, og, ot, mo_Vector⟩, kit_typ sb_Vector_int⟩ (kito_cons ⟨⟨⟨pg_Poly, hd_Poly, po_Poly, sa_Poly⟩, kc_Poly, og, ot, mo_Poly⟩, kit_typ sb_Poly_int⟩ kito_nil)))), ko_tuple := ((kito_cons ⟨⟨⟨pg_Ratio, hd_Ratio, po_Ratio, sa_Ratio⟩, kc_Ratio, og, ot, mo_Ratio⟩, kit_typ sb_Ratio_tuple⟩ (kito_cons ⟨⟨⟨pg_Vector, hd_Vector, po_Vector, sa_Vector⟩, kc_Vector, og, ot, mo_Vector⟩, kit_typ sb_Vector_tuple⟩ (kito_cons ⟨⟨⟨pg_Poly, hd_Poly, po_Poly, sa_Poly⟩, kc_Poly, og, ot, mo_Poly⟩, kit_typ sb_Poly_tuple⟩ kito_nil)))), op_Ratio_mul := (⟨sf_Ratio, a_Ratio_mul, i_Ratio_mul, _, rr_Ratio_mul, rr_Ratio_mulp⟩), op_Vector_mul := (⟨sf_Vector, a_Vector_mul, i_Vector_mul, _, rr_Vector_mul, rr_Vector_mulp⟩), oi_Vector_mul := (⟨⟨_, ii_mul_f1⟩, ⟨_, ii_mul_f2⟩, iz_Vector⟩), si_Vector := (sb_Vector_int), od_Ratio_Vector := (⟨nq_Ratio_Vector, sb_Vector_Ratio⟩), od_Vector_Ratio := (⟨nq_Vector_Ratio, sb_Ratio_Vector⟩), xm_Empty_Empty := (exm_ref xb_Empty ic_Empty ti_Empty xs_Empty), xm_Empty_ZeroBottom := (exm_ref xb_ZeroBottom ic_ZeroBottom ti_ZeroBottom xv_Empty_ZeroBottom), xm_ZeroBottom_Empty := (exm_ref xb_Empty ic_Empty ti_Empty xv_ZeroBottom_Empty), xm_ZeroBottom_ZeroBottom := (exm_ref xb_ZeroBottom ic_ZeroBottom ti_ZeroBottom xs_ZeroBottom), fin_Vector_getitem := (fin_Vector_getitem), mg_shared_part := (PySem.W.mg_of X G a_shared_part), me_Ratio_mul := (⟨a_Ratio_mul, i_Ratio_mul, F_Ratio_mul.kp⟩), fi_Ratio_mul := (a_Ratio_mul), isf_Ratio_mul := (i_Ratio_mul), me_Ratio_eq := (⟨a_Ratio_eq, i_Ratio_eq, F_Ratio_eq.kp⟩), fi_Ratio_eq := (a_Ratio_eq), isf_Ratio_eq := (i_Ratio_eq), mg_common_bottom := (PySem.W.mg_of X G a_common_bottom), mg_over_one_bottom := (PySem.W.mg_of X G a_over_one_bottom), mg_weighted_sums := (PySem.W.mg_of X G a_weighted_sums), mg_integer_dot := (PySem.W.mg_of X G a_integer_dot), pr_Vector_is_zero := (⟨p_Vector_is_zero, a_Vector_is_zero, g_Vector_is_zero, t_Vector_is_zero, r_Vector_is_zero, e_Vector_is_zero⟩), me_Vector_len := (⟨a_Vector_len, i_Vector_len, F_Vector_len.kp⟩), fi_Vector_len := (a_Vector_len), isf_Vector_len := (i_Vector_len), me_Vector_getitem := (⟨a_Vector_getitem, i_Vector_getitem, F_Vector_getitem.kp⟩), fi_Vector_getitem := (a_Vector_getitem), isf_Vector_getitem := (i_Vector_getitem), me_Vector_add := (⟨a_Vector_add, i_Vector_add, F_Vector_add.kp⟩), fi_Vector_add := (a_Vector_add), isf_Vector_add := (i_Vector_add), me_Vector_sub := (⟨a_Vector_sub, i_Vector_sub, F_Vector_sub.kp⟩), fi_Vector_sub := (a_Vector_sub), isf_Vector_sub := (i_Vector_sub), me_Vector_neg := (⟨a_Vector_neg, i_Vector_neg, F_Vector_neg.kp⟩), fi_Vector_neg := (a_Vector_neg), isf_Vector_neg := (i_Vector_neg), me_Vector_mul := (⟨a_Vector_mul, i_Vector_mul, F_Vector_mul.kp⟩), fi_Vector_mul := (a_Vector_mul), isf_Vector_mul := (i_Vector_mul), me_Vector_rmul := (⟨a_Vector_rmul, i_Vector_rmul, F_Vector_rmul.kp⟩), fi_Vector_rmul := (a_Vector_rmul), isf_Vector_rmul := (i_Vector_rmul), me_Vector_eq := (⟨a_Vector_eq, i_Vector_eq, F_Vector_eq.kp⟩), fi_Vector_eq := (a_Vector_eq), isf_Vector_eq := (i_Vector_eq), me_Vector_dot := (⟨a_Vector_dot, i_Vector_dot, F_Vector_dot.kp⟩), fi_Vector_dot := (a_Vector_dot), isf_Vector_dot := (i_Vector_dot), st_Vector_unit := (⟨sg_Vector, ti_Vector, sr_Vector, p_Vector_unit, r_Vector_unit, a_Vector_unit, e_Vector_unit⟩), st_Vector_zero := (⟨sg_Vector, ti_Vector, sr_Vector, p_Vector_zero, r_Vector_zero, a_Vector_zero, e_Vector_zero⟩), st_Vector_of := (⟨sg_Vector, ti_Vector, sr_Vector, p_Vector_of, r_Vector_of, a_Vector_of, e_Vector_of⟩), me_Poly_eq := (⟨a_Poly_eq, i_Poly_eq, F_Poly_eq.kp⟩), fi_Poly_eq := (a_Poly_eq), isf_Poly_eq := (i_Poly_eq), mg_law_cell := (PySem.W.mg_of X G a_law_cell), mg_law_mix := (PySem.W.mg_of X G a_law_mix), mg_law_draws := (PySem.W.mg_of X G a_law_draws), mg_law_small := (PySem.W.mg_of X G a_law_small), mg_law_bottom := (PySem.W.mg_of X G a_law_bottom), mg_law_wide := (PySem.W.mg_of X G a_law_wide), mg_law_is_integer := (PySem.W.mg_of X G a_law_is_integer), mg_law_gcd := (PySem.W.mg_of X G a_law_gcd), mg_law_ratio := (PySem.W.mg_of X G a_law_ratio), mg_law_low := (PySem.W.mg_of X G a_law_low), mg_law_thing := (PySem.W.mg_of X G a_law_thing), mg_law_factors := (PySem.W.mg_of X G a_law_factors), mg_law_is_ratio := (PySem.W.mg_of X G a_law_is_ratio), mg_law_is := (PySem.W.mg_of X G a_law_is), mg_law_truth := (PySem.W.mg_of X G a_law_truth), mg_law_made := (PySem.W.mg_of X G a_law_made), mg_law_alone := (PySem.W.mg_of X G a_law_alone), mg_law_asked := (PySem.W.mg_of X G a_law_asked), mg_law_pair := (PySem.W.mg_of X G a_law_pair), mg_law_refusal := (PySem.W.mg_of X G a_law_refusal), mg_law_refusals := (PySem.W.mg_of X G a_law_refusals), mg_law_made_others := (PySem.W.mg_of X G a_law_made_others), mg_law := (PySem.W.mg_of X G a_law), mg_ZeroBottom := (PySem.W.mg_of X G a_ZeroBottom), ox_ZeroBottom := (⟨xL_ZeroBottom, xsa_ZeroBottom, xb_ZeroBottom, ti_ZeroBottom, xk_ZeroBottom⟩), xi_ZeroBottom := (a_xZeroBottom), xt_ZeroBottom := (t_xZeroBottom), xf_ZeroBottom := (⟨xg_ZeroBottom, xh_ZeroBottom, xb_ZeroBottom, xd_ZeroBottom⟩), xc_ZeroBottom := (⟨xg_ZeroBottom, xh_ZeroBottom, xb_ZeroBottom, xd_ZeroBottom, xcl_ZeroBottom, og, ot, xmo_ZeroBottom⟩), xe_ZeroBottom := (exm_ref xb_ZeroBottom ic_ZeroBottom ti_ZeroBottom xs_ZeroBottom), na_ZeroBottom_word := (xn_ZeroBottom_word), xk_ZeroBottom_LastrowsError := (kit_ref ic_LastrowsError ti_LastrowsError xu_ZeroBottom_LastrowsError (.inl rfl)), xk_ZeroBottom_ValueError := (kit_typ xu_ZeroBottom_ValueError), xk_ZeroBottom_Empty := (kit_ref ic_Empty ti_Empty xu_ZeroBottom_Empty (.inr xq_ZeroBottom_Empty)), xk_ZeroBottom_BadText := (kit_ref ic_BadText ti_BadText xu_ZeroBottom_BadText (.inr xq_ZeroBottom_BadText)), mg_Empty := (PySem.W.mg_of X G a_Empty), ox_Empty := (⟨xL_Empty, xsa_Empty, xb_Empty, ti_Empty, xk_Empty⟩), xi_Empty := (a_xEmpty), xt_Empty := (t_xEmpty), xf_Empty := (⟨xg_Empty, xh_Empty, xb_Empty, xd_Empty⟩), xc_Empty := (⟨xg_Empty, xh_Empty, xb_Empty, xd_Empty, xcl_Empty, og, ot, xmo_Empty⟩), xe_Empty := (exm_ref xb_Empty ic_Empty ti_Empty xs_Empty), na_Empty_word := (xn_Empty_word), xk_Empty_LastrowsError := (kit_ref ic_LastrowsError ti_LastrowsError xu_Empty_LastrowsError (.inl rfl)), xk_Empty_ValueError := (kit_typ xu_Empty_ValueError), xk_Empty_ZeroBottom := (kit_ref ic_ZeroBottom ti_ZeroBottom xu_Empty_ZeroBottom (.inr xq_Empty_ZeroBottom)), xk_Empty_BadText := (kit_ref ic_BadText ti_BadText xu_Empty_BadText (.inr xq_Empty_BadText)), mg_SizeMismatch := (PySem.W.mg_of X G a_SizeMismatch), ox_SizeMismatch := (⟨xL_SizeMismatch, xsa_SizeMismatch, xb_SizeMismatch, ti_SizeMismatch, xk_SizeMismatch⟩), xi_SizeMismatch := (a_xSizeMismatch), xt_SizeMismatch := (t_xSizeMismatch), xf_SizeMismatch := (⟨xg_SizeMismatch, xh_SizeMismatch, xb_SizeMismatch, xd_SizeMismatch⟩), xc_SizeMismatch := (⟨xg_SizeMismatch, xh_SizeMismatch, xb_SizeMismatch, xd_SizeMismatch, xcl_SizeMismatch, og, ot, xmo_SizeMismatch⟩), xe_SizeMismatch := (exm_ref xb_SizeMismatch ic_SizeMismatch ti_SizeMismatch xs_SizeMismatch), na_SizeMismatch_left := (xn_SizeMismatch_left), na_SizeMismatch_right := (xn_SizeMismatch_right), na_SizeMismatch_word := (xn_SizeMismatch_word), xk_SizeMismatch_LastrowsError := (kit_ref ic_LastrowsError ti_LastrowsError xu_SizeMismatch_LastrowsError (.inl rfl)), xk_SizeMismatch_ValueError := (kit_typ xu_SizeMismatch_ValueError), xk_SizeMismatch_Empty := (kit_ref ic_Empty ti_Empty xu_SizeMismatch_Empty (.inr xq_SizeMismatch_Empty)), ne_Empty_ZeroBottom := (eq_false (fun z => by have z : C_Empty = C_ZeroBottom := z; rw [z, beq_self_eq_true] at nq_Empty_ZeroBottom; cases nq_Empty_ZeroBottom)), ne_ZeroBottom_Empty := (eq_false (fun z => by have z : C_ZeroBottom = C_Empty := z; rw [z, beq_self_eq_true] at nq_ZeroBottom_Empty; cases nq_ZeroBottom_Empty)), mg_LastrowsError := (PySem.W.mg_of X G a_LastrowsError), mg_BadText := (PySem.W.mg_of X G a_BadText), b_NotImplemented := (PySem.W.mg_none_of X G b_NotImplemented), b_ValueError := (PySem.W.mg_none_of X G b_ValueError), b_abs := (PySem.W.mg_none_of X G b_abs), b_all := (PySem.W.mg_none_of X G b_all), b_bool := (PySem.W.mg_none_of X G b_bool), b_int := (PySem.W.mg_none_of X G b_int), b_isinstance := (PySem.W.mg_none_of X G b_isinstance), b_len := (PySem.W.mg_none_of X G b_len), b_list := (PySem.W.mg_none_of X G b_list), b_range := (PySem.W.mg_none_of X G b_range), b_sum := (PySem.W.mg_none_of X G b_sum), b_tuple := (PySem.W.mg_none_of X G b_tuple), b_zip := (PySem.W.mg_none_of X G b_zip), m_gcd := (PySem.W.mg_of X G m_gcd), m_lcm := (PySem.W.mg_of X G m_lcm) }
  have S : Fs K a _ := { F_shared_part := F_shared_part, B_shared_part := B_shared_part, F_Ratio_init := F_Ratio_init, B_Ratio_init := B_Ratio_init, B_Ratio_init_1 := B_Ratio_init_1, F_Ratio_mul := F_Ratio_mul, B_Ratio_mul := B_Ratio_mul, F_Ratio_eq := F_Ratio_eq, B_Ratio_eq := B_Ratio_eq, F_common_bottom := F_common_bottom, B_common_bottom := B_common_bottom, F_over_one_bottom := F_over_one_bottom, B_over_one_bottom := B_over_one_bottom, F_weighted_sums := F_weighted_sums, B_weighted_sums := B_weighted_sums, F_integer_dot := F_integer_dot, B_integer_dot := B_integer_dot, F_Vector_init := F_Vector_init, B_Vector_init := B_Vector_init, B_Vector_init_1 := B_Vector_init_1, F_Vector_is_zero := F_Vector_is_zero, B_Vector_is_zero := B_Vector_is_zero, F_Vector_len := F_Vector_len, B_Vector_len := B_Vector_len, F_Vector_getitem := F_Vector_getitem, B_Vector_getitem := B_Vector_getitem, F_Vector_add := F_Vector_add, B_Vector_add := B_Vector_add, F_Vector_sub := F_Vector_sub, B_Vector_sub := B_Vector_sub, F_Vector_neg := F_Vector_neg, B_Vector_neg := B_Vector_neg, F_Vector_mul := F_Vector_mul, B_Vector_mul := B_Vector_mul, F_Vector_rmul := F_Vector_rmul, B_Vector_rmul := B_Vector_rmul, F_Vector_eq := F_Vector_eq, B_Vector_eq := B_Vector_eq, F_Vector_dot := F_Vector_dot, B_Vector_dot := B_Vector_dot, F_Vector_unit := F_Vector_unit, B_Vector_unit := B_Vector_unit, F_Vector_zero := F_Vector_zero, B_Vector_zero := B_Vector_zero, F_Vector_of := F_Vector_of, B_Vector_of := B_Vector_of, F_Poly_init := F_Poly_init, B_Poly_init := B_Poly_init, B_Poly_init_1 := B_Poly_init_1, F_Poly_eq := F_Poly_eq, B_Poly_eq := B_Poly_eq, F_law_cell := F_law_cell, B_law_cell := B_law_cell, F_law_mix := F_law_mix, B_law_mix := B_law_mix, F_law_draws := F_law_draws, B_law_draws := B_law_draws, F_law_small := F_law_small, B_law_small := B_law_small, F_law_bottom := F_law_bottom, B_law_bottom := B_law_bottom, F_law_wide := F_law_wide, B_law_wide := B_law_wide, F_law_is_integer := F_law_is_integer, B_law_is_integer := B_law_is_integer, F_law_gcd := F_law_gcd, B_law_gcd := B_law_gcd, F_law_ratio := F_law_ratio, B_law_ratio := B_law_ratio, F_law_low := F_law_low, B_law_low := B_law_low, F_law_thing := F_law_thing, B_law_thing := B_law_thing, F_law_factors := F_law_factors, B_law_factors := B_law_factors, F_law_is_ratio := F_law_is_ratio, B_law_is_ratio := B_law_is_ratio, F_law_is := F_law_is, B_law_is := B_law_is, F_law_truth := F_law_truth, B_law_truth := B_law_truth, F_law_made := F_law_made, B_law_made := B_law_made, F_law_alone := F_law_alone, B_law_alone := B_law_alone, F_law_asked := F_law_asked, B_law_asked := B_law_asked, F_law_pair := F_law_pair, B_law_pair := B_law_pair, F_law_refusal := F_law_refusal, B_law_refusal := B_law_refusal, F_law_refusals := F_law_refusals, B_law_refusals := B_law_refusals, F_law_made_others := F_law_made_others, B_law_made_others := B_law_made_others, F_law := F_law, B_law := B_law, XF_ZeroBottom := F_xZeroBottom, XB_ZeroBottom := B_xZeroBottom, XF_Empty := F_xEmpty, XB_Empty := B_xEmpty, XF_SizeMismatch := F_xSizeMismatch, XB_SizeMismatch := B_xSizeMismatch : Fs K a { d_shared_part := _, d_Ratio_init := _, d_Ratio_mul := _, d_Ratio_eq := _, d_common_bottom := _, d_over_one_bottom := _, d_weighted_sums := _, d_integer_dot := _, d_Vector_init := _, d_Vector_is_zero := _, d_Vector_len := _, d_Vector_getitem := _, d_Vector_add := _, d_Vector_sub := _, d_Vector_neg := _, d_Vector_mul := _, d_Vector_rmul := _, d_Vector_eq := _, d_Vector_dot := _, d_Vector_unit := _, d_Vector_zero := _, d_Vector_of := _, d_Poly_init := _, d_Poly_eq := _, d_law_cell := _, d_law_mix := _, d_law_draws := _, d_law_small := _, d_law_bottom := _, d_law_wide := _, d_law_is_integer := _, d_law_gcd := _, d_law_ratio := _, d_law_low := _, d_law_thing := _, d_law_factors := _, d_law_is_ratio := _, d_law_is := _, d_law_truth := _, d_law_made := _, d_law_alone := _, d_law_asked := _, d_law_pair := _, d_law_refusal := _, d_law_refusals := _, d_law_made_others := _, d_law := _, d_xZeroBottom := _, d_xEmpty := _, d_xSizeMismatch := _ } }
  exact ⟨_, fun s v => F_law.bindsA (ps := ["script"]) (fun _ _ _ _ _ _ us hl => match us, hl with | [_], _ => rfl) s [v] rfl, fun base _ _ => ok_law T S⟩
/-! ### the facts, as Bools -/
def bs0 : List (QK → Bool) := [fun K => decide (PySem.W.nsIn K mainGlobals "Ratio" = some (some (.ref (He.ga K "Ratio")))),
  fun K => decide (PySem.W.nsIn K mainGlobals "Vector" = some (some (.ref (He.ga K "Vector")))),
  fun K => decide (PySem.W.nsIn K mainGlobals "Poly" = some (some (.ref (He.ga K "Poly")))),
  fun K => decide (PySem.W.nsIn K mainGlobals "ZeroBottom" = some (some (.ref (He.ga K "ZeroBottom")))),
  fun K => decide (PySem.W.nsIn K mainGlobals "Empty" = some (some (.ref (He.ga K "Empty")))),
  fun K => decide (PySem.W.nsIn K mainGlobals "SizeMismatch" = some (some (.ref (He.ga K "SizeMismatch")))),
  fun K => decide (PySem.W.nsIn K mainGlobals "LastrowsError" = some (some (.ref (He.ga K "LastrowsError")))),
  fun K => decide (PySem.W.nsIn K mainGlobals "BadText" = some (some (.ref (He.ga K "BadText")))),
  fun K => decide (PySem.W.specialIn K (.builtin "object.__class__") "__get__" = some (some (.builtin "getset_descriptor.__get__"))),
  fun K => decide (PySem.W.takesIn K (.builtin "object.__class__") = some true),
  fun K => decide (PySem.W.plainGet K (He.ga K "Ratio") Str.empty = true),
  fun K => decide (PySem.W.hasDictIn K (He.ga K "Ratio") = true),
  fun K => decide (PySem.W.plainOver K (He.ga K "Ratio") = true),
  fun K => decide (PySem.W.findIn K (.ref (He.ga K "Ratio")) "__setattr__" = some (some (.builtin "object.__setattr__"))),
  fun K => decide (PySem.W.findIn K (.ref (He.ga K "Ratio")) "__class__" = some (some (.builtin "object.__class__"))),
  fun K => decide (PySem.W.mroIn K (He.ga K "Ratio") (.type "object") = some true),
  fun K => decide (PySem.W.isClsIn K (He.ga K "Ratio") = true),
  fun K => decide (PySem.W.typeIn K (.ref (He.ga K "Ratio")) = some (.type "type")),
  fun K => decide (PySem.W.selfFirst K (He.ga K "Ratio") = true),
  fun K => decide (PySem.W.findIn K (.ref (He.ga K "Ratio")) "__ne__" = some (some (.builtin "object.__ne__"))),
  fun K => decide (PySem.W.makesIn K (He.ga K "Ratio") = true),
  fun K => decide (PySem.W.keepIn K (.ref (He.ga K "Ratio")) = true),
  fun K => decide (PySem.W.subIn K (.type "int") (.ref (He.ga K "Ratio")) = some false),
  fun K => decide (PySem.W.notFirst K (He.ga K "Ratio") (.type "int") = true),
  fun K => decide (PySem.W.subIn K (.type "bool") (.ref (He.ga K "Ratio")) = some false),
  fun K => decide (PySem.W.notFirst K (He.ga K "Ratio") (.type "bool") = true),
  fun K => decide (PySem.W.subIn K (.type "str") (.ref (He.ga K "Ratio")) = some false),
  fun K => decide (PySem.W.notFirst K (He.ga K "Ratio") (.type "str") = true),
  fun K => decide (PySem.W.subIn K (.type "NoneType") (.ref (He.ga K "Ratio")) = some false),
  fun K => decide (PySem.W.notFirst K (He.ga K "Ratio") (.type "NoneType") = true)]
def bs1 : List (QK → Bool) := [fun K => decide (PySem.W.subIn K (.type "list") (.ref (He.ga K "Ratio")) = some false),
  fun K => decide (PySem.W.notFirst K (He.ga K "Ratio") (.type "list") = true),
  fun K => decide (PySem.W.subIn K (.type "tuple") (.ref (He.ga K "Ratio")) = some false),
  fun K => decide (PySem.W.notFirst K (He.ga K "Ratio") (.type "tuple") = true),
  fun K => decide (PySem.W.findIn K (.ref (He.ga K "Ratio")) "top" = some none),
  fun K => decide (PySem.W.findIn K (.ref (He.ga K "Ratio")) "bottom" = some none),
  fun K => decide (PySem.W.plainGet K (He.ga K "Vector") Str.empty = true),
  fun K => decide (PySem.W.hasDictIn K (He.ga K "Vector") = true),
  fun K => decide (PySem.W.plainOver K (He.ga K "Vector") = true),
  fun K => decide (PySem.W.findIn K (.ref (He.ga K "Vector")) "__setattr__" = some (some (.builtin "object.__setattr__"))),
  fun K => decide (PySem.W.findIn K (.ref (He.ga K "Vector")) "__class__" = some (some (.builtin "object.__class__"))),
  fun K => decide (PySem.W.mroIn K (He.ga K "Vector") (.type "object") = some true),
  fun K => decide (PySem.W.isClsIn K (He.ga K "Vector") = true),
  fun K => decide (PySem.W.typeIn K (.ref (He.ga K "Vector")) = some (.type "type")),
  fun K => decide (PySem.W.selfFirst K (He.ga K "Vector") = true),
  fun K => decide (PySem.W.findIn K (.ref (He.ga K "Vector")) "__ne__" = some (some (.builtin "object.__ne__"))),
  fun K => decide (PySem.W.makesIn K (He.ga K "Vector") = true),
  fun K => decide (PySem.W.keepIn K (.ref (He.ga K "Vector")) = true),
  fun K => decide (PySem.W.subIn K (.type "int") (.ref (He.ga K "Vector")) = some false),
  fun K => decide (PySem.W.notFirst K (He.ga K "Vector") (.type "int") = true),
  fun K => decide (PySem.W.subIn K (.type "bool") (.ref (He.ga K "Vector")) = some false),
  fun K => decide (PySem.W.notFirst K (He.ga K "Vector") (.type "bool") = true),
  fun K => decide (PySem.W.subIn K (.type "str") (.ref (He.ga K "Vector")) = some false),
  fun K => decide (PySem.W.notFirst K (He.ga K "Vector") (.type "str") = true),
  fun K => decide (PySem.W.subIn K (.type "NoneType") (.ref (He.ga K "Vector")) = some false),
  fun K => decide (PySem.W.notFirst K (He.ga K "Vector") (.type "NoneType") = true),
  fun K => decide (PySem.W.subIn K (.type "list") (.ref (He.ga K "Vector")) = some false),
  fun K => decide (PySem.W.notFirst K (He.ga K "Vector") (.type "list") = true),
  fun K => decide (PySem.W.subIn K (.type "tuple") (.ref (He.ga K "Vector")) = some false),
  fun K => decide (PySem.W.notFirst K (He.ga K "Vector") (.type "tuple") = true)]
def bs2 : List (QK → Bool) := [fun K => decide (PySem.W.findIn K (.ref (He.ga K "Vector")) "tops" = some none),
  fun K => decide (PySem.W.findIn K (.ref (He.ga K "Vector")) "bottom" = some none),
  fun K => decide (PySem.W.plainGet K (He.ga K "Poly") Str.empty = true),
  fun K => decide (PySem.W.hasDictIn K (He.ga K "Poly") = true),
  fun K => decide (PySem.W.plainOver K (He.ga K "Poly") = true),
  fun K => decide (PySem.W.findIn K (.ref (He.ga K "Poly")) "__setattr__" = some (some (.builtin "object.__setattr__"))),
  fun K => decide (PySem.W.findIn K (.ref (He.ga K "Poly")) "__class__" = some (some (.builtin "object.__class__"))),
  fun K => decide (PySem.W.mroIn K (He.ga K "Poly") (.type "object") = some true),
  fun K => decide (PySem.W.isClsIn K (He.ga K "Poly") = true),
  fun K => decide (PySem.W.typeIn K (.ref (He.ga K "Poly")) = some (.type "type")),
  fun K => decide (PySem.W.selfFirst K (He.ga K "Poly") = true),
  fun K => decide (PySem.W.findIn K (.ref (He.ga K "Poly")) "__ne__" = some (some (.builtin "object.__ne__"))),
  fun K => decide (PySem.W.makesIn K (He.ga K "Poly") = true),
  fun K => decide (PySem.W.keepIn K (.ref (He.ga K "Poly")) = true),
  fun K => decide (PySem.W.subIn K (.type "int") (.ref (He.ga K "Poly")) = some false),
  fun K => decide (PySem.W.notFirst K (He.ga K "Poly") (.type "int") = true),
  fun K => decide (PySem.W.subIn K (.type "bool") (.ref (He.ga K "Poly")) = some false),
  fun K => decide (PySem.W.notFirst K (He.ga K "Poly") (.type "bool") = true),
  fun K => decide (PySem.W.subIn K (.type "str") (.ref (He.ga K "Poly")) = some false),
  fun K => decide (PySem.W.notFirst K (He.ga K "Poly") (.type "str") = true),
  fun K => decide (PySem.W.subIn K (.type "NoneType") (.ref (He.ga K "Poly")) = some false),
  fun K => decide (PySem.W.notFirst K (He.ga K "Poly") (.type "NoneType") = true),
  fun K => decide (PySem.W.subIn K (.type "list") (.ref (He.ga K "Poly")) = some false),
  fun K => decide (PySem.W.notFirst K (He.ga K "Poly") (.type "list") = true),
  fun K => decide (PySem.W.subIn K (.type "tuple") (.ref (He.ga K "Poly")) = some false),
  fun K => decide (PySem.W.notFirst K (He.ga K "Poly") (.type "tuple") = true),
  fun K => decide (PySem.W.findIn K (.ref (He.ga K "Poly")) "tops" = some none),
  fun K => decide (PySem.W.findIn K (.ref (He.ga K "Poly")) "bottom" = some none),
  fun K => decide ((Value.ref (He.ga K "Ratio") == Value.ref (He.ga K "Vector")) = false),
  fun K => decide ((Value.ref (He.ga K "Ratio") == Value.ref (He.ga K "Poly")) = false)]
def bs3 : List (QK → Bool) := [fun K => decide ((Value.ref (He.ga K "Vector") == Value.ref (He.ga K "Ratio")) = false),
  fun K => decide ((Value.ref (He.ga K "Vector") == Value.ref (He.ga K "Poly")) = false),
  fun K => decide ((Value.ref (He.ga K "Poly") == Value.ref (He.ga K "Ratio")) = false),
  fun K => decide ((Value.ref (He.ga K "Poly") == Value.ref (He.ga K "Vector")) = false),
  fun K => decide (PySem.W.subIn K (.ref (He.ga K "Vector")) (.ref (He.ga K "Poly")) = some false),
  fun K => decide (PySem.W.subIn K (.ref (He.ga K "Ratio")) (.ref (He.ga K "Poly")) = some false),
  fun K => decide (PySem.W.subIn K (.ref (He.ga K "Poly")) (.ref (He.ga K "Ratio")) = some false),
  fun K => decide (PySem.W.subIn K (.ref (He.ga K "Vector")) (.ref (He.ga K "Ratio")) = some false),
  fun K => decide (PySem.W.subIn K (.ref (He.ga K "Poly")) (.ref (He.ga K "Vector")) = some false),
  fun K => decide (PySem.W.subIn K (.ref (He.ga K "Ratio")) (.ref (He.ga K "Vector")) = some false),
  fun K => decide (PySem.W.notFirst K (He.ga K "Poly") (.ref (He.ga K "Vector")) = true),
  fun K => decide (PySem.W.notFirst K (He.ga K "Poly") (.ref (He.ga K "Ratio")) = true),
  fun K => decide (PySem.W.notFirst K (He.ga K "Vector") (.ref (He.ga K "Poly")) = true),
  fun K => decide (PySem.W.notFirst K (He.ga K "Vector") (.ref (He.ga K "Ratio")) = true),
  fun K => decide (PySem.W.subIn K (.ref (He.ga K "Poly")) (.type "bool") = some false),
  fun K => decide (PySem.W.subIn K (.ref (He.ga K "Vector")) (.type "bool") = some false),
  fun K => decide (PySem.W.subIn K (.ref (He.ga K "Ratio")) (.type "bool") = some false),
  fun K => decide (PySem.W.subIn K (.ref (He.ga K "Poly")) (.type "int") = some false),
  fun K => decide (PySem.W.subIn K (.ref (He.ga K "Vector")) (.type "int") = some false),
  fun K => decide (PySem.W.subIn K (.ref (He.ga K "Ratio")) (.type "int") = some false),
  fun K => decide (PySem.W.subIn K (.ref (He.ga K "Poly")) (.type "tuple") = some false),
  fun K => decide (PySem.W.subIn K (.ref (He.ga K "Vector")) (.type "tuple") = some false),
  fun K => decide (PySem.W.subIn K (.ref (He.ga K "Ratio")) (.type "tuple") = some false),
  fun K => decide (PySem.W.findIn K (.type "int") "__mul__" = some ((PySem.W.findIn K (.type "int") "__mul__").getD none)),
  fun K => decide (PySem.W.findIn K (.type "int") "__rmul__" = some ((PySem.W.findIn K (.type "int") "__rmul__").getD none)),
  fun K => decide (PySem.W.subIn K (.type "int") (.ref (He.ga K "Vector")) = some false),
  fun K => decide (PySem.W.nsIn K mainGlobals "shared_part" = some (some (.ref (He.ga K "shared_part")))),
  fun K => decide (PySem.W.findIn K (.ref (He.ga K "Ratio")) "__init__" = some (some (.ref (He.ma K (He.ga K "Ratio") "__init__")))),
  fun K => decide (PySem.W.isFn K (.ref (He.ma K (He.ga K "Ratio") "__init__")) = true),
  fun K => decide (PySem.W.findIn K (.ref (He.ga K "Ratio")) "__mul__" = some (some (.ref (He.ma K (He.ga K "Ratio") "__mul__"))))]
def bs4 : List (QK → Bool) := [fun K => decide (PySem.W.isFn K (.ref (He.ma K (He.ga K "Ratio") "__mul__")) = true),
  fun K => decide (PySem.W.findIn K (.ref (He.ga K "Ratio")) "__eq__" = some (some (.ref (He.ma K (He.ga K "Ratio") "__eq__")))),
  fun K => decide (PySem.W.isFn K (.ref (He.ma K (He.ga K "Ratio") "__eq__")) = true),
  fun K => decide (PySem.W.nsIn K mainGlobals "common_bottom" = some (some (.ref (He.ga K "common_bottom")))),
  fun K => decide (PySem.W.nsIn K mainGlobals "over_one_bottom" = some (some (.ref (He.ga K "over_one_bottom")))),
  fun K => decide (PySem.W.nsIn K mainGlobals "weighted_sums" = some (some (.ref (He.ga K "weighted_sums")))),
  fun K => decide (PySem.W.nsIn K mainGlobals "integer_dot" = some (some (.ref (He.ga K "integer_dot")))),
  fun K => decide (PySem.W.findIn K (.ref (He.ga K "Vector")) "__init__" = some (some (.ref (He.ma K (He.ga K "Vector") "__init__")))),
  fun K => decide (PySem.W.isFn K (.ref (He.ma K (He.ga K "Vector") "__init__")) = true),
  fun K => decide (PySem.W.findIn K (.ref (He.ga K "Vector")) "is_zero" = some (some (.ref (He.ma K (He.ga K "Vector") "is_zero")))),
  fun K => decide (PySem.W.specialIn K (.ref (He.ma K (He.ga K "Vector") "is_zero")) "__get__" = some (some (.builtin "property.__get__"))),
  fun K => decide (PySem.W.takesIn K (.ref (He.ma K (He.ga K "Vector") "is_zero")) = some true),
  fun K => decide (PySem.W.recIn K (He.ma K (He.ga K "Vector") "is_zero") "property" = some (.ref (rec1 K (He.ma K (He.ga K "Vector") "is_zero") "property") :: (recR K (He.ma K (He.ga K "Vector") "is_zero") "property"))),
  fun K => decide (PySem.W.findIn K (.ref (He.ga K "Vector")) "__len__" = some (some (.ref (He.ma K (He.ga K "Vector") "__len__")))),
  fun K => decide (PySem.W.isFn K (.ref (He.ma K (He.ga K "Vector") "__len__")) = true),
  fun K => decide (PySem.W.findIn K (.ref (He.ga K "Vector")) "__getitem__" = some (some (.ref (He.ma K (He.ga K "Vector") "__getitem__")))),
  fun K => decide (PySem.W.isFn K (.ref (He.ma K (He.ga K "Vector") "__getitem__")) = true),
  fun K => decide (PySem.W.findIn K (.ref (He.ga K "Vector")) "__add__" = some (some (.ref (He.ma K (He.ga K "Vector") "__add__")))),
  fun K => decide (PySem.W.isFn K (.ref (He.ma K (He.ga K "Vector") "__add__")) = true),
  fun K => decide (PySem.W.findIn K (.ref (He.ga K "Vector")) "__sub__" = some (some (.ref (He.ma K (He.ga K "Vector") "__sub__")))),
  fun K => decide (PySem.W.isFn K (.ref (He.ma K (He.ga K "Vector") "__sub__")) = true),
  fun K => decide (PySem.W.findIn K (.ref (He.ga K "Vector")) "__neg__" = some (some (.ref (He.ma K (He.ga K "Vector") "__neg__")))),
  fun K => decide (PySem.W.isFn K (.ref (He.ma K (He.ga K "Vector") "__neg__")) = true),
  fun K => decide (PySem.W.findIn K (.ref (He.ga K "Vector")) "__mul__" = some (some (.ref (He.ma K (He.ga K "Vector") "__mul__")))),
  fun K => decide (PySem.W.isFn K (.ref (He.ma K (He.ga K "Vector") "__mul__")) = true),
  fun K => decide (PySem.W.findIn K (.ref (He.ga K "Vector")) "__rmul__" = some (some (.ref (He.ma K (He.ga K "Vector") "__rmul__")))),
  fun K => decide (PySem.W.isFn K (.ref (He.ma K (He.ga K "Vector") "__rmul__")) = true),
  fun K => decide (PySem.W.findIn K (.ref (He.ga K "Vector")) "__eq__" = some (some (.ref (He.ma K (He.ga K "Vector") "__eq__")))),
  fun K => decide (PySem.W.isFn K (.ref (He.ma K (He.ga K "Vector") "__eq__")) = true),
  fun K => decide (PySem.W.findIn K (.ref (He.ga K "Vector")) "dot" = some (some (.ref (He.ma K (He.ga K "Vector") "dot"))))]
def bs5 : List (QK → Bool) := [fun K => decide (PySem.W.isFn K (.ref (He.ma K (He.ga K "Vector") "dot")) = true),
  fun K => decide (PySem.W.specialIn K (.ref (He.ga K "Vector")) "__getattribute__" = some (some (.builtin "type.__getattribute__"))),
  fun K => decide (PySem.W.readsIn K (He.ga K "Vector") (.type "type") = true),
  fun K => stB K (He.ga K "Vector") "unit" (He.ma K (He.ga K "Vector") "unit"),
  fun K => decide (PySem.W.recIn K (He.ma K (He.ga K "Vector") "unit") "staticmethod" = some (.ref (rec1 K (He.ma K (He.ga K "Vector") "unit") "staticmethod") :: (recR K (He.ma K (He.ga K "Vector") "unit") "staticmethod"))),
  fun K => stB K (He.ga K "Vector") "zero" (He.ma K (He.ga K "Vector") "zero"),
  fun K => decide (PySem.W.recIn K (He.ma K (He.ga K "Vector") "zero") "staticmethod" = some (.ref (rec1 K (He.ma K (He.ga K "Vector") "zero") "staticmethod") :: (recR K (He.ma K (He.ga K "Vector") "zero") "staticmethod"))),
  fun K => stB K (He.ga K "Vector") "of" (He.ma K (He.ga K "Vector") "of"),
  fun K => decide (PySem.W.recIn K (He.ma K (He.ga K "Vector") "of") "staticmethod" = some (.ref (rec1 K (He.ma K (He.ga K "Vector") "of") "staticmethod") :: (recR K (He.ma K (He.ga K "Vector") "of") "staticmethod"))),
  fun K => decide (PySem.W.findIn K (.ref (He.ga K "Poly")) "__init__" = some (some (.ref (He.ma K (He.ga K "Poly") "__init__")))),
  fun K => decide (PySem.W.isFn K (.ref (He.ma K (He.ga K "Poly") "__init__")) = true),
  fun K => decide (PySem.W.findIn K (.ref (He.ga K "Poly")) "__eq__" = some (some (.ref (He.ma K (He.ga K "Poly") "__eq__")))),
  fun K => decide (PySem.W.isFn K (.ref (He.ma K (He.ga K "Poly") "__eq__")) = true),
  fun K => decide (PySem.W.nsIn K mainGlobals "_law_cell" = some (some (.ref (He.ga K "_law_cell")))),
  fun K => decide (PySem.W.nsIn K mainGlobals "_law_mix" = some (some (.ref (He.ga K "_law_mix")))),
  fun K => decide (PySem.W.nsIn K mainGlobals "_law_draws" = some (some (.ref (He.ga K "_law_draws")))),
  fun K => decide (PySem.W.nsIn K mainGlobals "_law_small" = some (some (.ref (He.ga K "_law_small")))),
  fun K => decide (PySem.W.nsIn K mainGlobals "_law_bottom" = some (some (.ref (He.ga K "_law_bottom")))),
  fun K => decide (PySem.W.nsIn K mainGlobals "_law_wide" = some (some (.ref (He.ga K "_law_wide")))),
  fun K => decide (PySem.W.nsIn K mainGlobals "_law_is_integer" = some (some (.ref (He.ga K "_law_is_integer")))),
  fun K => decide (PySem.W.nsIn K mainGlobals "_law_gcd" = some (some (.ref (He.ga K "_law_gcd")))),
  fun K => decide (PySem.W.nsIn K mainGlobals "_law_ratio" = some (some (.ref (He.ga K "_law_ratio")))),
  fun K => decide (PySem.W.nsIn K mainGlobals "_law_low" = some (some (.ref (He.ga K "_law_low")))),
  fun K => decide (PySem.W.nsIn K mainGlobals "_law_thing" = some (some (.ref (He.ga K "_law_thing")))),
  fun K => decide (PySem.W.nsIn K mainGlobals "_law_factors" = some (some (.ref (He.ga K "_law_factors")))),
  fun K => decide (PySem.W.nsIn K mainGlobals "_law_is_ratio" = some (some (.ref (He.ga K "_law_is_ratio")))),
  fun K => decide (PySem.W.nsIn K mainGlobals "_law_is" = some (some (.ref (He.ga K "_law_is")))),
  fun K => decide (PySem.W.nsIn K mainGlobals "_law_truth" = some (some (.ref (He.ga K "_law_truth")))),
  fun K => decide (PySem.W.nsIn K mainGlobals "_law_made" = some (some (.ref (He.ga K "_law_made")))),
  fun K => decide (PySem.W.nsIn K mainGlobals "_law_alone" = some (some (.ref (He.ga K "_law_alone"))))]
def bs6 : List (QK → Bool) := [fun K => decide (PySem.W.nsIn K mainGlobals "_law_asked" = some (some (.ref (He.ga K "_law_asked")))),
  fun K => decide (PySem.W.nsIn K mainGlobals "_law_pair" = some (some (.ref (He.ga K "_law_pair")))),
  fun K => decide (PySem.W.nsIn K mainGlobals "_law_refusal" = some (some (.ref (He.ga K "_law_refusal")))),
  fun K => decide (PySem.W.nsIn K mainGlobals "_law_refusals" = some (some (.ref (He.ga K "_law_refusals")))),
  fun K => decide (PySem.W.nsIn K mainGlobals "_law_made_others" = some (some (.ref (He.ga K "_law_made_others")))),
  fun K => decide (PySem.W.nsIn K mainGlobals "law" = some (some (.ref (He.ga K "law")))),
  fun K => decide (PySem.W.findIn K (.ref (He.ga K "Ratio")) "__rmul__" = some ((PySem.W.findIn K (.ref (He.ga K "Ratio")) "__rmul__").getD none)),
  fun K => nrB ((PySem.W.findIn K (.ref (He.ga K "Ratio")) "__rmul__").getD none),
  fun K => decide (PySem.W.findIn K (.ref (He.ga K "Vector")) "__rmul__" = some ((PySem.W.findIn K (.ref (He.ga K "Vector")) "__rmul__").getD none)),
  fun K => nrB ((PySem.W.findIn K (.ref (He.ga K "Vector")) "__rmul__").getD none),
  fun K => decide (PySem.W.fnIn K (He.ma K (He.ga K "Vector") "__getitem__") = true),
  fun K => oexB K (He.ga K "ZeroBottom"),
  fun K => decide (PySem.W.isClsIn K (He.ga K "ZeroBottom") = true),
  fun K => decide (PySem.W.typeIn K (.ref (He.ga K "ZeroBottom")) = some (.type "type")),
  fun K => decide (PySem.W.findIn K (.ref (He.ga K "ZeroBottom")) "__setattr__" = some (some (.builtin "object.__setattr__"))),
  fun K => decide (PySem.W.subIn K (.ref (He.ga K "ZeroBottom")) (.type "BaseException") = some true),
  fun K => decide (PySem.W.keepIn K (.ref (He.ga K "ZeroBottom")) = true),
  fun K => decide (PySem.W.findIn K (.ref (He.ga K "ZeroBottom")) "__getattribute__" = some (some (.builtin "BaseException.__getattribute__"))),
  fun K => decide (PySem.W.findIn K (.ref (He.ga K "ZeroBottom")) "__getattr__" = some none),
  fun K => decide (PySem.W.hasDictIn K (He.ga K "ZeroBottom") = true),
  fun K => decide (PySem.W.findIn K (.ref (He.ga K "ZeroBottom")) "__class__" = some (some (.builtin "object.__class__"))),
  fun K => decide (PySem.W.mroIn K (He.ga K "ZeroBottom") (.type "object") = some true),
  fun K => decide (PySem.W.subIn K (.ref (He.ga K "ZeroBottom")) (.ref (He.ga K "ZeroBottom")) = some true),
  fun K => decide (PySem.W.findIn K (.ref (He.ga K "ZeroBottom")) "__init__" = some (some (.ref (He.ma K (He.ga K "ZeroBottom") "__init__")))),
  fun K => decide (PySem.W.typeIn K (.ref (He.ma K (He.ga K "ZeroBottom") "__init__")) = some (.type "function")),
  fun K => decide (PySem.W.subIn K (.ref (He.ga K "ZeroBottom")) (.ref (He.ga K "Empty")) = some false),
  fun K => decide (PySem.W.findIn K (.ref (He.ga K "ZeroBottom")) "word" = some none),
  fun K => decide (PySem.W.isClsIn K (He.ga K "LastrowsError") = true),
  fun K => decide (PySem.W.typeIn K (.ref (He.ga K "LastrowsError")) = some (.type "type")),
  fun K => decide (PySem.W.subIn K (.ref (He.ga K "ZeroBottom")) (.ref (He.ga K "LastrowsError")) = some true)]
def bs7 : List (QK → Bool) := [fun K => decide (PySem.W.subIn K (.ref (He.ga K "ZeroBottom")) (.type "ValueError") = some true),
  fun K => decide (PySem.W.isClsIn K (He.ga K "Empty") = true),
  fun K => decide (PySem.W.typeIn K (.ref (He.ga K "Empty")) = some (.type "type")),
  fun K => decide (PySem.W.subIn K (.ref (He.ga K "ZeroBottom")) (.ref (He.ga K "Empty")) = some false),
  fun K => decide ((Value.ref (He.ga K "ZeroBottom") == Value.ref (He.ga K "Empty")) = false),
  fun K => decide (PySem.W.isClsIn K (He.ga K "BadText") = true),
  fun K => decide (PySem.W.typeIn K (.ref (He.ga K "BadText")) = some (.type "type")),
  fun K => decide (PySem.W.subIn K (.ref (He.ga K "ZeroBottom")) (.ref (He.ga K "BadText")) = some false),
  fun K => decide ((Value.ref (He.ga K "ZeroBottom") == Value.ref (He.ga K "BadText")) = false),
  fun K => oexB K (He.ga K "Empty"),
  fun K => decide (PySem.W.findIn K (.ref (He.ga K "Empty")) "__setattr__" = some (some (.builtin "object.__setattr__"))),
  fun K => decide (PySem.W.subIn K (.ref (He.ga K "Empty")) (.type "BaseException") = some true),
  fun K => decide (PySem.W.keepIn K (.ref (He.ga K "Empty")) = true),
  fun K => decide (PySem.W.findIn K (.ref (He.ga K "Empty")) "__getattribute__" = some (some (.builtin "BaseException.__getattribute__"))),
  fun K => decide (PySem.W.findIn K (.ref (He.ga K "Empty")) "__getattr__" = some none),
  fun K => decide (PySem.W.hasDictIn K (He.ga K "Empty") = true),
  fun K => decide (PySem.W.findIn K (.ref (He.ga K "Empty")) "__class__" = some (some (.builtin "object.__class__"))),
  fun K => decide (PySem.W.mroIn K (He.ga K "Empty") (.type "object") = some true),
  fun K => decide (PySem.W.subIn K (.ref (He.ga K "Empty")) (.ref (He.ga K "Empty")) = some true),
  fun K => decide (PySem.W.findIn K (.ref (He.ga K "Empty")) "__init__" = some (some (.ref (He.ma K (He.ga K "Empty") "__init__")))),
  fun K => decide (PySem.W.typeIn K (.ref (He.ma K (He.ga K "Empty") "__init__")) = some (.type "function")),
  fun K => decide (PySem.W.subIn K (.ref (He.ga K "Empty")) (.ref (He.ga K "ZeroBottom")) = some false),
  fun K => decide (PySem.W.findIn K (.ref (He.ga K "Empty")) "word" = some none),
  fun K => decide (PySem.W.subIn K (.ref (He.ga K "Empty")) (.ref (He.ga K "LastrowsError")) = some true),
  fun K => decide (PySem.W.subIn K (.ref (He.ga K "Empty")) (.type "ValueError") = some true),
  fun K => decide (PySem.W.subIn K (.ref (He.ga K "Empty")) (.ref (He.ga K "ZeroBottom")) = some false),
  fun K => decide ((Value.ref (He.ga K "Empty") == Value.ref (He.ga K "ZeroBottom")) = false),
  fun K => decide (PySem.W.subIn K (.ref (He.ga K "Empty")) (.ref (He.ga K "BadText")) = some false),
  fun K => decide ((Value.ref (He.ga K "Empty") == Value.ref (He.ga K "BadText")) = false),
  fun K => oexB K (He.ga K "SizeMismatch")]
def bs8 : List (QK → Bool) := [fun K => decide (PySem.W.isClsIn K (He.ga K "SizeMismatch") = true),
  fun K => decide (PySem.W.typeIn K (.ref (He.ga K "SizeMismatch")) = some (.type "type")),
  fun K => decide (PySem.W.findIn K (.ref (He.ga K "SizeMismatch")) "__setattr__" = some (some (.builtin "object.__setattr__"))),
  fun K => decide (PySem.W.subIn K (.ref (He.ga K "SizeMismatch")) (.type "BaseException") = some true),
  fun K => decide (PySem.W.keepIn K (.ref (He.ga K "SizeMismatch")) = true),
  fun K => decide (PySem.W.findIn K (.ref (He.ga K "SizeMismatch")) "__getattribute__" = some (some (.builtin "BaseException.__getattribute__"))),
  fun K => decide (PySem.W.findIn K (.ref (He.ga K "SizeMismatch")) "__getattr__" = some none),
  fun K => decide (PySem.W.hasDictIn K (He.ga K "SizeMismatch") = true),
  fun K => decide (PySem.W.findIn K (.ref (He.ga K "SizeMismatch")) "__class__" = some (some (.builtin "object.__class__"))),
  fun K => decide (PySem.W.mroIn K (He.ga K "SizeMismatch") (.type "object") = some true),
  fun K => decide (PySem.W.subIn K (.ref (He.ga K "SizeMismatch")) (.ref (He.ga K "SizeMismatch")) = some true),
  fun K => decide (PySem.W.findIn K (.ref (He.ga K "SizeMismatch")) "__init__" = some (some (.ref (He.ma K (He.ga K "SizeMismatch") "__init__")))),
  fun K => decide (PySem.W.typeIn K (.ref (He.ma K (He.ga K "SizeMismatch") "__init__")) = some (.type "function")),
  fun K => decide (PySem.W.findIn K (.ref (He.ga K "SizeMismatch")) "left" = some none),
  fun K => decide (PySem.W.findIn K (.ref (He.ga K "SizeMismatch")) "right" = some none),
  fun K => decide (PySem.W.findIn K (.ref (He.ga K "SizeMismatch")) "word" = some none),
  fun K => decide (PySem.W.subIn K (.ref (He.ga K "SizeMismatch")) (.ref (He.ga K "LastrowsError")) = some true),
  fun K => decide (PySem.W.subIn K (.ref (He.ga K "SizeMismatch")) (.type "ValueError") = some true),
  fun K => decide (PySem.W.subIn K (.ref (He.ga K "SizeMismatch")) (.ref (He.ga K "Empty")) = some false),
  fun K => decide ((Value.ref (He.ga K "SizeMismatch") == Value.ref (He.ga K "Empty")) = false),
  fun K => decide ((Value.ref (He.ga K "Empty") == Value.ref (He.ga K "ZeroBottom")) = false),
  fun K => decide ((Value.ref (He.ga K "ZeroBottom") == Value.ref (He.ga K "Empty")) = false),
  fun K => decide (PySem.W.nsIn K mainGlobals "NotImplemented" = some none),
  fun K => decide (PySem.W.nsIn K mainGlobals "ValueError" = some none),
  fun K => decide (PySem.W.nsIn K mainGlobals "abs" = some none),
  fun K => decide (PySem.W.nsIn K mainGlobals "all" = some none),
  fun K => decide (PySem.W.nsIn K mainGlobals "bool" = some none),
  fun K => decide (PySem.W.nsIn K mainGlobals "int" = some none),
  fun K => decide (PySem.W.nsIn K mainGlobals "isinstance" = some none),
  fun K => decide (PySem.W.nsIn K mainGlobals "len" = some none)]
def bs9 : List (QK → Bool) := [fun K => decide (PySem.W.nsIn K mainGlobals "list" = some none),
  fun K => decide (PySem.W.nsIn K mainGlobals "range" = some none),
  fun K => decide (PySem.W.nsIn K mainGlobals "sum" = some none),
  fun K => decide (PySem.W.nsIn K mainGlobals "tuple" = some none),
  fun K => decide (PySem.W.nsIn K mainGlobals "zip" = some none),
  fun K => decide (PySem.W.nsIn K mainGlobals "gcd" = some (some (.builtin "math.gcd"))),
  fun K => decide (PySem.W.nsIn K mainGlobals "lcm" = some (some (.builtin "math.lcm")))]
def bsA : List (QK → Bool) := bs0 ++ bs1 ++ bs2 ++ bs3 ++ bs4 ++ bs5 ++ bs6 ++ bs7 ++ bs8 ++ bs9
def dx0 : List DX := [⟨fun K => He.ga K "shared_part", "shared_part", "shared_part", s_shared_part, []⟩,
  ⟨fun K => He.ma K (He.ga K "Ratio") "__init__", "__init__", "Ratio.__init__", s_Ratio_init, [V.int 1]⟩,
  ⟨fun K => He.ma K (He.ga K "Ratio") "__mul__", "__mul__", "Ratio.__mul__", s_Ratio_mul, []⟩,
  ⟨fun K => He.ma K (He.ga K "Ratio") "__eq__", "__eq__", "Ratio.__eq__", s_Ratio_eq, []⟩,
  ⟨fun K => He.ga K "common_bottom", "common_bottom", "common_bottom", s_common_bottom, []⟩,
  ⟨fun K => He.ga K "over_one_bottom", "over_one_bottom", "over_one_bottom", s_over_one_bottom, []⟩,
  ⟨fun K => He.ga K "weighted_sums", "weighted_sums", "weighted_sums", s_weighted_sums, []⟩,
  ⟨fun K => He.ga K "integer_dot", "integer_dot", "integer_dot", s_integer_dot, []⟩,
  ⟨fun K => He.ma K (He.ga K "Vector") "__init__", "__init__", "Vector.__init__", s_Vector_init, [V.int 1]⟩,
  ⟨fun K => rec1 K (He.ma K (He.ga K "Vector") "is_zero") "property", "is_zero", "Vector.is_zero", s_Vector_is_zero, []⟩,
  ⟨fun K => He.ma K (He.ga K "Vector") "__len__", "__len__", "Vector.__len__", s_Vector_len, []⟩,
  ⟨fun K => He.ma K (He.ga K "Vector") "__getitem__", "__getitem__", "Vector.__getitem__", s_Vector_getitem, []⟩,
  ⟨fun K => He.ma K (He.ga K "Vector") "__add__", "__add__", "Vector.__add__", s_Vector_add, []⟩,
  ⟨fun K => He.ma K (He.ga K "Vector") "__sub__", "__sub__", "Vector.__sub__", s_Vector_sub, []⟩,
  ⟨fun K => He.ma K (He.ga K "Vector") "__neg__", "__neg__", "Vector.__neg__", s_Vector_neg, []⟩,
  ⟨fun K => He.ma K (He.ga K "Vector") "__mul__", "__mul__", "Vector.__mul__", s_Vector_mul, []⟩,
  ⟨fun K => He.ma K (He.ga K "Vector") "__rmul__", "__rmul__", "Vector.__rmul__", s_Vector_rmul, []⟩,
  ⟨fun K => He.ma K (He.ga K "Vector") "__eq__", "__eq__", "Vector.__eq__", s_Vector_eq, []⟩,
  ⟨fun K => He.ma K (He.ga K "Vector") "dot", "dot", "Vector.dot", s_Vector_dot, []⟩,
  ⟨fun K => rec1 K (He.ma K (He.ga K "Vector") "unit") "staticmethod", "unit", "Vector.unit", s_Vector_unit, []⟩,
  ⟨fun K => rec1 K (He.ma K (He.ga K "Vector") "zero") "staticmethod", "zero", "Vector.zero", s_Vector_zero, []⟩,
  ⟨fun K => rec1 K (He.ma K (He.ga K "Vector") "of") "staticmethod", "of", "Vector.of", s_Vector_of, []⟩,
  ⟨fun K => He.ma K (He.ga K "Poly") "__init__", "__init__", "Poly.__init__", s_Poly_init, [V.int 1]⟩,
  ⟨fun K => He.ma K (He.ga K "Poly") "__eq__", "__eq__", "Poly.__eq__", s_Poly_eq, []⟩,
  ⟨fun K => He.ga K "_law_cell", "_law_cell", "_law_cell", s_law_cell, []⟩,
  ⟨fun K => He.ga K "_law_mix", "_law_mix", "_law_mix", s_law_mix, []⟩,
  ⟨fun K => He.ga K "_law_draws", "_law_draws", "_law_draws", s_law_draws, []⟩,
  ⟨fun K => He.ga K "_law_small", "_law_small", "_law_small", s_law_small, []⟩,
  ⟨fun K => He.ga K "_law_bottom", "_law_bottom", "_law_bottom", s_law_bottom, []⟩,
  ⟨fun K => He.ga K "_law_wide", "_law_wide", "_law_wide", s_law_wide, []⟩]
def dx1 : List DX := [⟨fun K => He.ga K "_law_is_integer", "_law_is_integer", "_law_is_integer", s_law_is_integer, []⟩,
  ⟨fun K => He.ga K "_law_gcd", "_law_gcd", "_law_gcd", s_law_gcd, []⟩,
  ⟨fun K => He.ga K "_law_ratio", "_law_ratio", "_law_ratio", s_law_ratio, []⟩,
  ⟨fun K => He.ga K "_law_low", "_law_low", "_law_low", s_law_low, []⟩,
  ⟨fun K => He.ga K "_law_thing", "_law_thing", "_law_thing", s_law_thing, []⟩,
  ⟨fun K => He.ga K "_law_factors", "_law_factors", "_law_factors", s_law_factors, []⟩,
  ⟨fun K => He.ga K "_law_is_ratio", "_law_is_ratio", "_law_is_ratio", s_law_is_ratio, []⟩,
  ⟨fun K => He.ga K "_law_is", "_law_is", "_law_is", s_law_is, []⟩,
  ⟨fun K => He.ga K "_law_truth", "_law_truth", "_law_truth", s_law_truth, []⟩,
  ⟨fun K => He.ga K "_law_made", "_law_made", "_law_made", s_law_made, []⟩,
  ⟨fun K => He.ga K "_law_alone", "_law_alone", "_law_alone", s_law_alone, []⟩,
  ⟨fun K => He.ga K "_law_asked", "_law_asked", "_law_asked", s_law_asked, []⟩,
  ⟨fun K => He.ga K "_law_pair", "_law_pair", "_law_pair", s_law_pair, []⟩,
  ⟨fun K => He.ga K "_law_refusal", "_law_refusal", "_law_refusal", s_law_refusal, []⟩,
  ⟨fun K => He.ga K "_law_refusals", "_law_refusals", "_law_refusals", s_law_refusals, []⟩,
  ⟨fun K => He.ga K "_law_made_others", "_law_made_others", "_law_made_others", s_law_made_others, []⟩,
  ⟨fun K => He.ga K "law", "law", "law", s_law, []⟩,
  ⟨fun K => He.ma K (He.ga K "ZeroBottom") "__init__", "__init__", "ZeroBottom.__init__", s_xZeroBottom, []⟩,
  ⟨fun K => He.ma K (He.ga K "Empty") "__init__", "__init__", "Empty.__init__", s_xEmpty, []⟩,
  ⟨fun K => He.ma K (He.ga K "SizeMismatch") "__init__", "__init__", "SizeMismatch.__init__", s_xSizeMismatch, []⟩]
def dxA : List DX := dx0 ++ dx1
abbrev hR : PySem.W.OpenRow := PySem.W.OpenLaw.row PySem.Challenge.rw_lastrows_k02_vectors
def tn0 : List Str := ["gcd", "lcm", "_wall", "__name__", "LastrowsError", "ZeroBottom", "BadNumber", "BadText", "Empty", "RaggedRows", "SizeMismatch", "NotSquare", "ZeroPoly", "DIGITS", "MOST_DIGITS", "TOO_LONG", "Ratio", "is_positive_integer", "shared_part", "common_bottom", "over_one_bottom", "read_ratios", "Vector", "weighted_sums", "integer_dot", "Matrix", "stacked", "Poly", "convolution", "divided"]
def tn1 : List Str := ["_law_cell", "_law_mix", "_law_draws", "_law_small", "_law_bottom", "_law_wide", "_law_is_integer", "_law_gcd", "_law_ratio", "_law_low", "_law_thing", "_law_factors", "_law_is_ratio", "_law_is", "_law_truth", "_law_made", "_law_alone", "_law_asked", "_law_pair", "_law_refusal", "_law_refusals", "_law_made_others"]
def tnA : List Str := tn0 ++ tn1
set_option maxHeartbeats 0 in
theorem run (w : World) : RunX hR (PySem.W.view hR.prog [56]) (hookX bsA dxA) (obX bsA dxA) 40000 tnA w := by
  unfold RunX
  kernel_rfl
theorem facts {P : Program} {w : World} {K : QK} {h : Heap} {mg : Str → Option Value} {fa : Addr} (X : K.In h) (G : h.Ns mainGlobals mg) (hfa : mg "law" = some (.ref fa)) (c : lookX bsA dxA K = dueX dxA) :
    ∃ fd : FuncData, (∀ (s : Shared) (v : Value), BindsTo s fd ⟨[v], []⟩ [("script", v)]) ∧ ∀ base : Heap, K.In base → base.Ns mainGlobals mg → FnOk P w K mg base (L2.CX P w) 8 fa fd ["script"] (spP K P_law0) := by
  obtain ⟨fd_shared_part, F_shared_part⟩ := lookX_d c 0
  obtain ⟨fd_Ratio_init, F_Ratio_init⟩ := lookX_d c 1
  obtain ⟨fd_Ratio_mul, F_Ratio_mul⟩ := lookX_d c 2
  obtain ⟨fd_Ratio_eq, F_Ratio_eq⟩ := lookX_d c 3
  obtain ⟨fd_common_bottom, F_common_bottom⟩ := lookX_d c 4
  obtain ⟨fd_over_one_bottom, F_over_one_bottom⟩ := lookX_d c 5
  obtain ⟨fd_weighted_sums, F_weighted_sums⟩ := lookX_d c 6
  obtain ⟨fd_integer_dot, F_integer_dot⟩ := lookX_d c 7
  obtain ⟨fd_Vector_init, F_Vector_init⟩ := lookX_d c 8
  obtain ⟨fd_Vector_is_zero, F_Vector_is_zero⟩ := lookX_d c 9
  obtain ⟨fd_Vector_len, F_Vector_len⟩ := lookX_d c 10
  obtain ⟨fd_Vector_getitem, F_Vector_getitem⟩ := lookX_d c 11
  obtain ⟨fd_Vector_add, F_Vector_add⟩ := lookX_d c 12
  obtain ⟨fd_Vector_sub, F_Vector_sub⟩ := lookX_d c 13
  obtain ⟨fd_Vector_neg, F_Vector_neg⟩ := lookX_d c 14
  obtain ⟨fd_Vector_mul, F_Vector_mul⟩ := lookX_d c 15
  obtain ⟨fd_Vector_rmul, F_Vector_rmul⟩ := lookX_d c 16
  obtain ⟨fd_Vector_eq, F_Vector_eq⟩ := lookX_d c 17
  obtain ⟨fd_Vector_dot, F_Vector_dot⟩ := lookX_d c 18
  obtain ⟨fd_Vector_unit, F_Vector_unit⟩ := lookX_d c 19
  obtain ⟨fd_Vector_zero, F_Vector_zero⟩ := lookX_d c 20
  obtain ⟨fd_Vector_of, F_Vector_of⟩ := lookX_d c 21
  obtain ⟨fd_Poly_init, F_Poly_init⟩ := lookX_d c 22
  obtain ⟨fd_Poly_eq, F_Poly_eq⟩ := lookX_d c 23
  obtain ⟨fd_law_cell, F_law_cell⟩ := lookX_d c 24
  obtain ⟨fd_law_mix, F_law_mix⟩ := lookX_d c 25
  obtain ⟨fd_law_draws, F_law_draws⟩ := lookX_d c 26
  obtain ⟨fd_law_small, F_law_small⟩ := lookX_d c 27
  obtain ⟨fd_law_bottom, F_law_bottom⟩ := lookX_d c 28
  obtain ⟨fd_law_wide, F_law_wide⟩ := lookX_d c 29
  obtain ⟨fd_law_is_integer, F_law_is_integer⟩ := lookX_d c 30
  obtain ⟨fd_law_gcd, F_law_gcd⟩ := lookX_d c 31
  obtain ⟨fd_law_ratio, F_law_ratio⟩ := lookX_d c 32
  obtain ⟨fd_law_low, F_law_low⟩ := lookX_d c 33
  obtain ⟨fd_law_thing, F_law_thing⟩ := lookX_d c 34
  obtain ⟨fd_law_factors, F_law_factors⟩ := lookX_d c 35
  obtain ⟨fd_law_is_ratio, F_law_is_ratio⟩ := lookX_d c 36
  obtain ⟨fd_law_is, F_law_is⟩ := lookX_d c 37
  obtain ⟨fd_law_truth, F_law_truth⟩ := lookX_d c 38
  obtain ⟨fd_law_made, F_law_made⟩ := lookX_d c 39
  obtain ⟨fd_law_alone, F_law_alone⟩ := lookX_d c 40
  obtain ⟨fd_law_asked, F_law_asked⟩ := lookX_d c 41
  obtain ⟨fd_law_pair, F_law_pair⟩ := lookX_d c 42
  obtain ⟨fd_law_refusal, F_law_refusal⟩ := lookX_d c 43
  obtain ⟨fd_law_refusals, F_law_refusals⟩ := lookX_d c 44
  obtain ⟨fd_law_made_others, F_law_made_others⟩ := lookX_d c 45
  obtain ⟨fd_law, F_law⟩ := lookX_d c 46
  obtain ⟨fd_xZeroBottom, F_xZeroBottom⟩ := lookX_d c 47
  obtain ⟨fd_xEmpty, F_xEmpty⟩ := lookX_d c 48
  obtain ⟨fd_xSizeMismatch, F_xSizeMismatch⟩ := lookX_d c 49
  exact all_mk X G hfa (a_Ratio := of_decide_eq_true (lookX_b c 0))
    (a_Vector := of_decide_eq_true (lookX_b c 1))
    (a_Poly := of_decide_eq_true (lookX_b c 2))
    (a_ZeroBottom := of_decide_eq_true (lookX_b c 3))
    (a_Empty := of_decide_eq_true (lookX_b c 4))
    (a_SizeMismatch := of_decide_eq_true (lookX_b c 5))
    (a_LastrowsError := of_decide_eq_true (lookX_b c 6))
    (a_BadText := of_decide_eq_true (lookX_b c 7))
    (og := of_decide_eq_true (lookX_b c 8))
    (ot := of_decide_eq_true (lookX_b c 9))
    (pg_Ratio := of_decide_eq_true (lookX_b c 10))
    (hd_Ratio := of_decide_eq_true (lookX_b c 11))
    (po_Ratio := of_decide_eq_true (lookX_b c 12))
    (sa_Ratio := of_decide_eq_true (lookX_b c 13))
    (kc_Ratio := of_decide_eq_true (lookX_b c 14))
    (mo_Ratio := of_decide_eq_true (lookX_b c 15))
    (ic_Ratio := of_decide_eq_true (lookX_b c 16))
    (ti_Ratio := of_decide_eq_true (lookX_b c 17))
    (sf_Ratio := of_decide_eq_true (lookX_b c 18))
    (ne_Ratio := of_decide_eq_true (lookX_b c 19))
    (mk_Ratio := of_decide_eq_true (lookX_b c 20))
    (kp_Ratio := of_decide_eq_true (lookX_b c 21))
    (su_Ratio_int := of_decide_eq_true (lookX_b c 22))
    (no_Ratio_int := of_decide_eq_true (lookX_b c 23))
    (su_Ratio_bool := of_decide_eq_true (lookX_b c 24))
    (no_Ratio_bool := of_decide_eq_true (lookX_b c 25))
    (su_Ratio_str := of_decide_eq_true (lookX_b c 26))
    (no_Ratio_str := of_decide_eq_true (lookX_b c 27))
    (su_Ratio_NoneType := of_decide_eq_true (lookX_b c 28))
    (no_Ratio_NoneType := of_decide_eq_true (lookX_b c 29))
    (su_Ratio_list := of_decide_eq_true (lookX_b c 30))
    (no_Ratio_list := of_decide_eq_true (lookX_b c 31))
    (su_Ratio_tuple := of_decide_eq_true (lookX_b c 32))
    (no_Ratio_tuple := of_decide_eq_true (lookX_b c 33))
    (na_Ratio_top := of_decide_eq_true (lookX_b c 34))
    (na_Ratio_bottom := of_decide_eq_true (lookX_b c 35))
    (pg_Vector := of_decide_eq_true (lookX_b c 36))
    (hd_Vector := of_decide_eq_true (lookX_b c 37))
    (po_Vector := of_decide_eq_true (lookX_b c 38))
    (sa_Vector := of_decide_eq_true (lookX_b c 39))
    (kc_Vector := of_decide_eq_true (lookX_b c 40))
    (mo_Vector := of_decide_eq_true (lookX_b c 41))
    (ic_Vector := of_decide_eq_true (lookX_b c 42))
    (ti_Vector := of_decide_eq_true (lookX_b c 43))
    (sf_Vector := of_decide_eq_true (lookX_b c 44))
    (ne_Vector := of_decide_eq_true (lookX_b c 45))
    (mk_Vector := of_decide_eq_true (lookX_b c 46))
    (kp_Vector := of_decide_eq_true (lookX_b c 47))
    (su_Vector_int := of_decide_eq_true (lookX_b c 48))
    (no_Vector_int := of_decide_eq_true (lookX_b c 49))
    (su_Vector_bool := of_decide_eq_true (lookX_b c 50))
    (no_Vector_bool := of_decide_eq_true (lookX_b c 51))
    (su_Vector_str := of_decide_eq_true (lookX_b c 52))
    (no_Vector_str := of_decide_eq_true (lookX_b c 53))
    (su_Vector_NoneType := of_decide_eq_true (lookX_b c 54))
    (no_Vector_NoneType := of_decide_eq_true (lookX_b c 55))
    (su_Vector_list := of_decide_eq_true (lookX_b c 56))
    (no_Vector_list := of_decide_eq_true (lookX_b c 57))
    (su_Vector_tuple := of_decide_eq_true (lookX_b c 58))
    (no_Vector_tuple := of_decide_eq_true (lookX_b c 59))
    (na_Vector_tops := of_decide_eq_true (lookX_b c 60))
    (na_Vector_bottom := of_decide_eq_true (lookX_b c 61))
    (pg_Poly := of_decide_eq_true (lookX_b c 62))
    (hd_Poly := of_decide_eq_true (lookX_b c 63))
    (po_Poly := of_decide_eq_true (lookX_b c 64))
    (sa_Poly := of_decide_eq_true (lookX_b c 65))
    (kc_Poly := of_decide_eq_true (lookX_b c 66))
    (mo_Poly := of_decide_eq_true (lookX_b c 67))
    (ic_Poly := of_decide_eq_true (lookX_b c 68))
    (ti_Poly := of_decide_eq_true (lookX_b c 69))
    (sf_Poly := of_decide_eq_true (lookX_b c 70))
    (ne_Poly := of_decide_eq_true (lookX_b c 71))
    (mk_Poly := of_decide_eq_true (lookX_b c 72))
    (kp_Poly := of_decide_eq_true (lookX_b c 73))
    (su_Poly_int := of_decide_eq_true (lookX_b c 74))
    (no_Poly_int := of_decide_eq_true (lookX_b c 75))
    (su_Poly_bool := of_decide_eq_true (lookX_b c 76))
    (no_Poly_bool := of_decide_eq_true (lookX_b c 77))
    (su_Poly_str := of_decide_eq_true (lookX_b c 78))
    (no_Poly_str := of_decide_eq_true (lookX_b c 79))
    (su_Poly_NoneType := of_decide_eq_true (lookX_b c 80))
    (no_Poly_NoneType := of_decide_eq_true (lookX_b c 81))
    (su_Poly_list := of_decide_eq_true (lookX_b c 82))
    (no_Poly_list := of_decide_eq_true (lookX_b c 83))
    (su_Poly_tuple := of_decide_eq_true (lookX_b c 84))
    (no_Poly_tuple := of_decide_eq_true (lookX_b c 85))
    (na_Poly_tops := of_decide_eq_true (lookX_b c 86))
    (na_Poly_bottom := of_decide_eq_true (lookX_b c 87))
    (nq_Ratio_Vector := of_decide_eq_true (lookX_b c 88))
    (nq_Ratio_Poly := of_decide_eq_true (lookX_b c 89))
    (nq_Vector_Ratio := of_decide_eq_true (lookX_b c 90))
    (nq_Vector_Poly := of_decide_eq_true (lookX_b c 91))
    (nq_Poly_Ratio := of_decide_eq_true (lookX_b c 92))
    (nq_Poly_Vector := of_decide_eq_true (lookX_b c 93))
    (sb_Vector_Poly := of_decide_eq_true (lookX_b c 94))
    (sb_Ratio_Poly := of_decide_eq_true (lookX_b c 95))
    (sb_Poly_Ratio := of_decide_eq_true (lookX_b c 96))
    (sb_Vector_Ratio := of_decide_eq_true (lookX_b c 97))
    (sb_Poly_Vector := of_decide_eq_true (lookX_b c 98))
    (sb_Ratio_Vector := of_decide_eq_true (lookX_b c 99))
    (nf_Poly_Vector := of_decide_eq_true (lookX_b c 100))
    (nf_Poly_Ratio := of_decide_eq_true (lookX_b c 101))
    (nf_Vector_Poly := of_decide_eq_true (lookX_b c 102))
    (nf_Vector_Ratio := of_decide_eq_true (lookX_b c 103))
    (sb_Poly_bool := of_decide_eq_true (lookX_b c 104))
    (sb_Vector_bool := of_decide_eq_true (lookX_b c 105))
    (sb_Ratio_bool := of_decide_eq_true (lookX_b c 106))
    (sb_Poly_int := of_decide_eq_true (lookX_b c 107))
    (sb_Vector_int := of_decide_eq_true (lookX_b c 108))
    (sb_Ratio_int := of_decide_eq_true (lookX_b c 109))
    (sb_Poly_tuple := of_decide_eq_true (lookX_b c 110))
    (sb_Vector_tuple := of_decide_eq_true (lookX_b c 111))
    (sb_Ratio_tuple := of_decide_eq_true (lookX_b c 112))
    (ii_mul_f1 := of_decide_eq_true (lookX_b c 113))
    (ii_mul_f2 := of_decide_eq_true (lookX_b c 114))
    (iz_Vector := of_decide_eq_true (lookX_b c 115))
    (a_shared_part := of_decide_eq_true (lookX_b c 116))
    (F_shared_part := F_shared_part)
    (a_Ratio_init := of_decide_eq_true (lookX_b c 117))
    (i_Ratio_init := of_decide_eq_true (lookX_b c 118))
    (F_Ratio_init := F_Ratio_init)
    (a_Ratio_mul := of_decide_eq_true (lookX_b c 119))
    (i_Ratio_mul := of_decide_eq_true (lookX_b c 120))
    (F_Ratio_mul := F_Ratio_mul)
    (a_Ratio_eq := of_decide_eq_true (lookX_b c 121))
    (i_Ratio_eq := of_decide_eq_true (lookX_b c 122))
    (F_Ratio_eq := F_Ratio_eq)
    (a_common_bottom := of_decide_eq_true (lookX_b c 123))
    (F_common_bottom := F_common_bottom)
    (a_over_one_bottom := of_decide_eq_true (lookX_b c 124))
    (F_over_one_bottom := F_over_one_bottom)
    (a_weighted_sums := of_decide_eq_true (lookX_b c 125))
    (F_weighted_sums := F_weighted_sums)
    (a_integer_dot := of_decide_eq_true (lookX_b c 126))
    (F_integer_dot := F_integer_dot)
    (a_Vector_init := of_decide_eq_true (lookX_b c 127))
    (i_Vector_init := of_decide_eq_true (lookX_b c 128))
    (F_Vector_init := F_Vector_init)
    (a_Vector_is_zero := of_decide_eq_true (lookX_b c 129))
    (g_Vector_is_zero := of_decide_eq_true (lookX_b c 130))
    (t_Vector_is_zero := of_decide_eq_true (lookX_b c 131))
    (e_Vector_is_zero := of_decide_eq_true (lookX_b c 132))
    (F_Vector_is_zero := F_Vector_is_zero)
    (a_Vector_len := of_decide_eq_true (lookX_b c 133))
    (i_Vector_len := of_decide_eq_true (lookX_b c 134))
    (F_Vector_len := F_Vector_len)
    (a_Vector_getitem := of_decide_eq_true (lookX_b c 135))
    (i_Vector_getitem := of_decide_eq_true (lookX_b c 136))
    (F_Vector_getitem := F_Vector_getitem)
    (a_Vector_add := of_decide_eq_true (lookX_b c 137))
    (i_Vector_add := of_decide_eq_true (lookX_b c 138))
    (F_Vector_add := F_Vector_add)
    (a_Vector_sub := of_decide_eq_true (lookX_b c 139))
    (i_Vector_sub := of_decide_eq_true (lookX_b c 140))
    (F_Vector_sub := F_Vector_sub)
    (a_Vector_neg := of_decide_eq_true (lookX_b c 141))
    (i_Vector_neg := of_decide_eq_true (lookX_b c 142))
    (F_Vector_neg := F_Vector_neg)
    (a_Vector_mul := of_decide_eq_true (lookX_b c 143))
    (i_Vector_mul := of_decide_eq_true (lookX_b c 144))
    (F_Vector_mul := F_Vector_mul)
    (a_Vector_rmul := of_decide_eq_true (lookX_b c 145))
    (i_Vector_rmul := of_decide_eq_true (lookX_b c 146))
    (F_Vector_rmul := F_Vector_rmul)
    (a_Vector_eq := of_decide_eq_true (lookX_b c 147))
    (i_Vector_eq := of_decide_eq_true (lookX_b c 148))
    (F_Vector_eq := F_Vector_eq)
    (a_Vector_dot := of_decide_eq_true (lookX_b c 149))
    (i_Vector_dot := of_decide_eq_true (lookX_b c 150))
    (F_Vector_dot := F_Vector_dot)
    (sg_Vector := of_decide_eq_true (lookX_b c 151))
    (sr_Vector := of_decide_eq_true (lookX_b c 152))
    (a_Vector_unit := stB_ok (lookX_b c 153))
    (e_Vector_unit := of_decide_eq_true (lookX_b c 154))
    (F_Vector_unit := F_Vector_unit)
    (a_Vector_zero := stB_ok (lookX_b c 155))
    (e_Vector_zero := of_decide_eq_true (lookX_b c 156))
    (F_Vector_zero := F_Vector_zero)
    (a_Vector_of := stB_ok (lookX_b c 157))
    (e_Vector_of := of_decide_eq_true (lookX_b c 158))
    (F_Vector_of := F_Vector_of)
    (a_Poly_init := of_decide_eq_true (lookX_b c 159))
    (i_Poly_init := of_decide_eq_true (lookX_b c 160))
    (F_Poly_init := F_Poly_init)
    (a_Poly_eq := of_decide_eq_true (lookX_b c 161))
    (i_Poly_eq := of_decide_eq_true (lookX_b c 162))
    (F_Poly_eq := F_Poly_eq)
    (a_law_cell := of_decide_eq_true (lookX_b c 163))
    (F_law_cell := F_law_cell)
    (a_law_mix := of_decide_eq_true (lookX_b c 164))
    (F_law_mix := F_law_mix)
    (a_law_draws := of_decide_eq_true (lookX_b c 165))
    (F_law_draws := F_law_draws)
    (a_law_small := of_decide_eq_true (lookX_b c 166))
    (F_law_small := F_law_small)
    (a_law_bottom := of_decide_eq_true (lookX_b c 167))
    (F_law_bottom := F_law_bottom)
    (a_law_wide := of_decide_eq_true (lookX_b c 168))
    (F_law_wide := F_law_wide)
    (a_law_is_integer := of_decide_eq_true (lookX_b c 169))
    (F_law_is_integer := F_law_is_integer)
    (a_law_gcd := of_decide_eq_true (lookX_b c 170))
    (F_law_gcd := F_law_gcd)
    (a_law_ratio := of_decide_eq_true (lookX_b c 171))
    (F_law_ratio := F_law_ratio)
    (a_law_low := of_decide_eq_true (lookX_b c 172))
    (F_law_low := F_law_low)
    (a_law_thing := of_decide_eq_true (lookX_b c 173))
    (F_law_thing := F_law_thing)
    (a_law_factors := of_decide_eq_true (lookX_b c 174))
    (F_law_factors := F_law_factors)
    (a_law_is_ratio := of_decide_eq_true (lookX_b c 175))
    (F_law_is_ratio := F_law_is_ratio)
    (a_law_is := of_decide_eq_true (lookX_b c 176))
    (F_law_is := F_law_is)
    (a_law_truth := of_decide_eq_true (lookX_b c 177))
    (F_law_truth := F_law_truth)
    (a_law_made := of_decide_eq_true (lookX_b c 178))
    (F_law_made := F_law_made)
    (a_law_alone := of_decide_eq_true (lookX_b c 179))
    (F_law_alone := F_law_alone)
    (a_law_asked := of_decide_eq_true (lookX_b c 180))
    (F_law_asked := F_law_asked)
    (a_law_pair := of_decide_eq_true (lookX_b c 181))
    (F_law_pair := F_law_pair)
    (a_law_refusal := of_decide_eq_true (lookX_b c 182))
    (F_law_refusal := F_law_refusal)
    (a_law_refusals := of_decide_eq_true (lookX_b c 183))
    (F_law_refusals := F_law_refusals)
    (a_law_made_others := of_decide_eq_true (lookX_b c 184))
    (F_law_made_others := F_law_made_others)
    (a_law := of_decide_eq_true (lookX_b c 185))
    (F_law := F_law)
    (rr_Ratio_mul := of_decide_eq_true (lookX_b c 186))
    (rr_Ratio_mulp := nrB_ok (lookX_b c 187))
    (rr_Vector_mul := of_decide_eq_true (lookX_b c 188))
    (rr_Vector_mulp := nrB_ok (lookX_b c 189))
    (fin_Vector_getitem := of_decide_eq_true (lookX_b c 190))
    (xL_ZeroBottom := oexB_ok (lookX_b c 191))
    (ic_ZeroBottom := of_decide_eq_true (lookX_b c 192))
    (ti_ZeroBottom := of_decide_eq_true (lookX_b c 193))
    (xsa_ZeroBottom := of_decide_eq_true (lookX_b c 194))
    (xb_ZeroBottom := of_decide_eq_true (lookX_b c 195))
    (xk_ZeroBottom := of_decide_eq_true (lookX_b c 196))
    (xg_ZeroBottom := of_decide_eq_true (lookX_b c 197))
    (xh_ZeroBottom := of_decide_eq_true (lookX_b c 198))
    (xd_ZeroBottom := of_decide_eq_true (lookX_b c 199))
    (xcl_ZeroBottom := of_decide_eq_true (lookX_b c 200))
    (xmo_ZeroBottom := of_decide_eq_true (lookX_b c 201))
    (xs_ZeroBottom := of_decide_eq_true (lookX_b c 202))
    (a_xZeroBottom := of_decide_eq_true (lookX_b c 203))
    (t_xZeroBottom := of_decide_eq_true (lookX_b c 204))
    (F_xZeroBottom := F_xZeroBottom)
    (xv_ZeroBottom_Empty := of_decide_eq_true (lookX_b c 205))
    (xn_ZeroBottom_word := of_decide_eq_true (lookX_b c 206))
    (ic_LastrowsError := of_decide_eq_true (lookX_b c 207))
    (ti_LastrowsError := of_decide_eq_true (lookX_b c 208))
    (xu_ZeroBottom_LastrowsError := of_decide_eq_true (lookX_b c 209))
    (xu_ZeroBottom_ValueError := of_decide_eq_true (lookX_b c 210))
    (ic_Empty := of_decide_eq_true (lookX_b c 211))
    (ti_Empty := of_decide_eq_true (lookX_b c 212))
    (xu_ZeroBottom_Empty := of_decide_eq_true (lookX_b c 213))
    (xq_ZeroBottom_Empty := of_decide_eq_true (lookX_b c 214))
    (ic_BadText := of_decide_eq_true (lookX_b c 215))
    (ti_BadText := of_decide_eq_true (lookX_b c 216))
    (xu_ZeroBottom_BadText := of_decide_eq_true (lookX_b c 217))
    (xq_ZeroBottom_BadText := of_decide_eq_true (lookX_b c 218))
    (xL_Empty := oexB_ok (lookX_b c 219))
    (xsa_Empty := of_decide_eq_true (lookX_b c 220))
    (xb_Empty := of_decide_eq_true (lookX_b c 221))
    (xk_Empty := of_decide_eq_true (lookX_b c 222))
    (xg_Empty := of_decide_eq_true (lookX_b c 223))
    (xh_Empty := of_decide_eq_true (lookX_b c 224))
    (xd_Empty := of_decide_eq_true (lookX_b c 225))
    (xcl_Empty := of_decide_eq_true (lookX_b c 226))
    (xmo_Empty := of_decide_eq_true (lookX_b c 227))
    (xs_Empty := of_decide_eq_true (lookX_b c 228))
    (a_xEmpty := of_decide_eq_true (lookX_b c 229))
    (t_xEmpty := of_decide_eq_true (lookX_b c 230))
    (F_xEmpty := F_xEmpty)
    (xv_Empty_ZeroBottom := of_decide_eq_true (lookX_b c 231))
    (xn_Empty_word := of_decide_eq_true (lookX_b c 232))
    (xu_Empty_LastrowsError := of_decide_eq_true (lookX_b c 233))
    (xu_Empty_ValueError := of_decide_eq_true (lookX_b c 234))
    (xu_Empty_ZeroBottom := of_decide_eq_true (lookX_b c 235))
    (xq_Empty_ZeroBottom := of_decide_eq_true (lookX_b c 236))
    (xu_Empty_BadText := of_decide_eq_true (lookX_b c 237))
    (xq_Empty_BadText := of_decide_eq_true (lookX_b c 238))
    (xL_SizeMismatch := oexB_ok (lookX_b c 239))
    (ic_SizeMismatch := of_decide_eq_true (lookX_b c 240))
    (ti_SizeMismatch := of_decide_eq_true (lookX_b c 241))
    (xsa_SizeMismatch := of_decide_eq_true (lookX_b c 242))
    (xb_SizeMismatch := of_decide_eq_true (lookX_b c 243))
    (xk_SizeMismatch := of_decide_eq_true (lookX_b c 244))
    (xg_SizeMismatch := of_decide_eq_true (lookX_b c 245))
    (xh_SizeMismatch := of_decide_eq_true (lookX_b c 246))
    (xd_SizeMismatch := of_decide_eq_true (lookX_b c 247))
    (xcl_SizeMismatch := of_decide_eq_true (lookX_b c 248))
    (xmo_SizeMismatch := of_decide_eq_true (lookX_b c 249))
    (xs_SizeMismatch := of_decide_eq_true (lookX_b c 250))
    (a_xSizeMismatch := of_decide_eq_true (lookX_b c 251))
    (t_xSizeMismatch := of_decide_eq_true (lookX_b c 252))
    (F_xSizeMismatch := F_xSizeMismatch)
    (xn_SizeMismatch_left := of_decide_eq_true (lookX_b c 253))
    (xn_SizeMismatch_right := of_decide_eq_true (lookX_b c 254))
    (xn_SizeMismatch_word := of_decide_eq_true (lookX_b c 255))
    (xu_SizeMismatch_LastrowsError := of_decide_eq_true (lookX_b c 256))
    (xu_SizeMismatch_ValueError := of_decide_eq_true (lookX_b c 257))
    (xu_SizeMismatch_Empty := of_decide_eq_true (lookX_b c 258))
    (xq_SizeMismatch_Empty := of_decide_eq_true (lookX_b c 259))
    (nq_Empty_ZeroBottom := of_decide_eq_true (lookX_b c 260))
    (nq_ZeroBottom_Empty := of_decide_eq_true (lookX_b c 261))
    (b_NotImplemented := of_decide_eq_true (lookX_b c 262))
    (b_ValueError := of_decide_eq_true (lookX_b c 263))
    (b_abs := of_decide_eq_true (lookX_b c 264))
    (b_all := of_decide_eq_true (lookX_b c 265))
    (b_bool := of_decide_eq_true (lookX_b c 266))
    (b_int := of_decide_eq_true (lookX_b c 267))
    (b_isinstance := of_decide_eq_true (lookX_b c 268))
    (b_len := of_decide_eq_true (lookX_b c 269))
    (b_list := of_decide_eq_true (lookX_b c 270))
    (b_range := of_decide_eq_true (lookX_b c 271))
    (b_sum := of_decide_eq_true (lookX_b c 272))
    (b_tuple := of_decide_eq_true (lookX_b c 273))
    (b_zip := of_decide_eq_true (lookX_b c 274))
    (m_gcd := of_decide_eq_true (lookX_b c 275))
    (m_lcm := of_decide_eq_true (lookX_b c 276))
end L_k02
open PySem PySem.W PySem.Calls PyProof.Rows
set_option maxRecDepth 100000 in
set_option maxHeartbeats 0 in
theorem PySem.Challenge.cw_lastrows_k02_vectors_holds : PySem.Challenge.rw_lastrows_k02_vectors.Holds := by
  w_on; o_law
  refine QL.headX (r := OpenLaw.row PySem.Challenge.rw_lastrows_k02_vectors) (q := view (OpenLaw.row PySem.Challenge.rw_lastrows_k02_vectors).prog [56]) (H := QL.hookX L_k02.bsA L_k02.dxA) (ob := QL.obX L_k02.bsA L_k02.dxA) (M := 40000) (loose := L_k02.tnA) (d := HandSHeadRun.topDef (OpenLaw.row PySem.Challenge.rw_lastrows_k02_vectors).prog 56) (kwd := []) (QL.obX_eq L_k02.bsA L_k02.dxA)
    (by kernel_rfl) L_k02.run (by kernel_rfl) (by kernel_rfl) (by kernel_rfl) (by rfl) (by first | assumption | decide +kernel) (by decide +kernel) ⟨rfl, rfl, rfl, rfl, rfl, by decide +kernel⟩ ?hw ?hc
  case hw => w_witness2
  case hc =>
    refine QL.walkX (l := PySem.Challenge.rw_lastrows_k02_vectors) (m := 63) (k := 8) (x := "script") (cx := fun w => L2.CX (PySem.Challenge.rw_lastrows_k02_vectors).prog w) rfl (by decide) (by kernel_rfl) ⟨rfl, by decide, by decide⟩ ?F (fun _ _ _ _ _ ⟨_, _, _, _, _, _, _, _, _, _, _, _, z⟩ => z)
    intro w mg fa h Y G hmg0
    obtain ⟨K, KX, c⟩ := Y
    have hmg : mg ("law" : PySem.Str) = some (.ref fa) := by
      have e : (HandSHeadRun.topDef (OpenLaw.row PySem.Challenge.rw_lastrows_k02_vectors).prog 56).name = ("law" : PySem.Str) := by kernel_rfl
      rw [← e]
      exact hmg0
    obtain ⟨fd, hb, hF⟩ := L_k02.facts (P := (PySem.Challenge.rw_lastrows_k02_vectors).prog) (w := w) KX G hmg c
    exact ⟨K, fd, QL.spP K L_k02.P_law0, KX, hb, fun H a ns hl _ hS => QL.q_sp hS (L_k02.law0 ns hl), hF⟩
#print axioms PySem.Challenge.cw_lastrows_k02_vectors_holds


