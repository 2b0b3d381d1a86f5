import PyProof.Rows.All
import Wide.All
import OpenK.AllK
import Wide.FinOn
import HandS.ForMost
import HandS.Exc
import HandS.TryOnly
import HandS.ExcOwn
import HandS.WordsExc
import HandS.ExcInit
import HandS.ExcField
import HandS.ExcIs
import HandS.Property
import HandS.IsInst
import HandS.Gcd
import HandS.Wide
import HandS.WideBits
import HandS.CallSlots
import HandS.Flow
import HandS.Defaults
import HandS.SlotsOwn
import KE.KOpsOwn
import HandS.ForList
import PySem.Challenge.RW_lastrows_k00_ratio_lowest
set_option Elab.async false
set_option linter.all false
set_option maxRecDepth 100000
set_option maxHeartbeats 4000000
set_option maxHeartbeats 2000000
/-! A layer over HandS: a def's body as a wp over pure values (no addresses, no heap). -/
namespace QL
open PySem PySem.Spec PyProof.Rows L2

/-- a pure value -/
inductive PV where
  | non | bl (b : Bool) | int (i : Int) | str (x : Str) | ty (n : String) | adr (a : Addr)
  | lst (xs : List PV) | tup (xs : List PV)
  | obj (C : Addr) (fs : List (Str × PV))

section
variable (K : PySem.W.Frag) (G : Hp)
mutual
/-- v stands for the pure value in the part G of the heap that is never changed again -/
inductive Rep : PV → V → Prop
  | non : Rep .non .non
  | bl (b : Bool) : Rep (.bl b) (.bl b)
  | int (i : Int) : Rep (.int i) (.int i)
  | str (x : Str) : Rep (.str x) (.str x)
  | ty (n : String) : Rep (.ty n) (.ty n)
  | adr (a : Addr) : Rep (.adr a) (.ref a)
  | lst {a : Addr} {vs : List V} {xs : List PV} : SqL K G a vs → Reps xs vs → Rep (.lst xs) (.ref a)
  | tup {a : Addr} {vs : List V} {xs : List PV} : SqT K G a vs → Reps xs vs → Rep (.tup xs) (.ref a)
  | obj {C a dx : Addr} {fs : List (Str × PV)} {gs : List (Str × V)} : G a = some (.ins C dx gs) → RepF fs gs → Rep (.obj C fs) (.ref a)
inductive Reps : List PV → List V → Prop
  | nil : Reps [] []
  | cons {x : PV} {v : V} {xs : List PV} {vs : List V} : Rep x v → Reps xs vs → Reps (x :: xs) (v :: vs)
inductive RepF : List (Str × PV) → List (Str × V) → Prop
  | nil : RepF [] []
  | cons {n : Str} {x : PV} {v : V} {xs : List (Str × PV)} {vs : List (Str × V)} : Rep x v → RepF xs vs → RepF ((n, x) :: xs) ((n, v) :: vs)
end
end

section
variable {K : PySem.W.Frag} {G G' H H' : Hp}
theorem Same.sqT {a : Addr} {xs : List V} (e : Same H H') (h : SqT K H a xs) : SqT K H' a xs := by
  rcases h with (h | ⟨o, h⟩) | h
  · exact .inl (.inl (e _ _ h))
  · exact .inl (.inr ⟨o, e _ _ h⟩)
  · exact .inr h
mutual
theorem Rep.mono (e : Same G G') : ∀ {x : PV} {v : V}, Rep K G x v → Rep K G' x v
  | _, _, .non => .non
  | _, _, .bl b => .bl b
  | _, _, .int i => .int i
  | _, _, .str x => .str x
  | _, _, .ty n => .ty n
  | _, _, .adr a => .adr a
  | _, _, .lst h r => .lst (e.seq h) (Reps.mono e r)
  | _, _, .tup h r => .tup (Same.sqT e h) (Reps.mono e r)
  | _, _, .obj h r => .obj (e _ _ h) (RepF.mono e r)
theorem Reps.mono (e : Same G G') : ∀ {x : List PV} {v : List V}, Reps K G x v → Reps K G' x v
  | _, _, .nil => .nil
  | _, _, .cons h r => .cons (Rep.mono e h) (Reps.mono e r)
theorem RepF.mono (e : Same G G') : ∀ {x : List (Str × PV)} {v : List (Str × V)}, RepF K G x v → RepF K G' x v
  | _, _, .nil => .nil
  | _, _, .cons h r => .cons (Rep.mono e h) (RepF.mono e r)
end
theorem Reps.length : ∀ {xs : List PV} {vs : List V}, Reps K G xs vs → xs.length = vs.length
  | _, _, .nil => rfl
  | _, _, .cons _ r => congrArg (· + 1) (Reps.length r)
theorem Reps.get : ∀ {xs : List PV} {vs : List V} {i : Nat} {x : PV}, Reps K G xs vs → xs[i]? = some x → ∃ v, vs[i]? = some v ∧ Rep K G x v
  | _, _, _, _, .nil, e => by simp at e
  | _, _, 0, _, .cons r _, e => by simp at e; subst e; exact ⟨_, rfl, r⟩
  | _, _, i + 1, x, .cons _ t, e => by
    obtain ⟨u, h1, h2⟩ := Reps.get (i := i) (x := x) t (by simpa using e)
    exact ⟨u, by simpa using h1, h2⟩
theorem Reps.getV : ∀ {xs : List PV} {vs : List V} {i : Nat} {v : V}, Reps K G xs vs → vs[i]? = some v → ∃ x, xs[i]? = some x ∧ Rep K G x v
  | _, _, _, _, .nil, e => by simp at e
  | _, _, 0, _, .cons r _, e => by simp at e; subst e; exact ⟨_, rfl, r⟩
  | _, _, i + 1, x, .cons _ t, e => by
    obtain ⟨u, h1, h2⟩ := Reps.getV (i := i) (v := x) t (by simpa using e)
    exact ⟨u, by simpa using h1, h2⟩
theorem Reps.append : ∀ {xs ys : List PV} {vs ws : List V}, Reps K G xs vs → Reps K G ys ws → Reps K G (xs ++ ys) (vs ++ ws)
  | _, _, _, _, .nil, s => s
  | _, _, _, _, .cons r t, s => .cons r (Reps.append t s)
theorem Reps.take : ∀ {xs : List PV} {vs : List V} (n : Nat), Reps K G xs vs → Reps K G (xs.take n) (vs.take n)
  | _, _, 0, _ => .nil
  | _, _, _ + 1, .nil => .nil
  | _, _, n + 1, .cons r t => .cons r (Reps.take n t)
theorem Reps.drop : ∀ {xs : List PV} {vs : List V} (n : Nat), Reps K G xs vs → Reps K G (xs.drop n) (vs.drop n)
  | _, _, 0, r => r
  | _, _, _ + 1, .nil => .nil
  | _, _, n + 1, .cons _ t => Reps.drop n t
theorem Reps.set {x : PV} {v : V} (r : Rep K G x v) : ∀ {xs : List PV} {vs : List V} (i : Nat), Reps K G xs vs → Reps K G (xs.set i x) (vs.set i v)
  | _, _, _, .nil => .nil
  | _, _, 0, .cons _ t => .cons r t
  | _, _, i + 1, .cons q t => .cons q (Reps.set r i t)
theorem Reps.dropLast : ∀ {xs : List PV} {vs : List V}, Reps K G xs vs → Reps K G xs.dropLast vs.dropLast
  | _, _, .nil => .nil
  | _, _, .cons _ .nil => .nil
  | _, _, .cons r (.cons r' t) => .cons r (Reps.dropLast (.cons r' t))
theorem Reps.reverse {xs : List PV} {vs : List V} (h : Reps K G xs vs) : Reps K G xs.reverse vs.reverse := by
  induction h using Reps.rec (motive_1 := fun _ _ _ => True) (motive_3 := fun _ _ _ => True) with
  | nil => exact .nil
  | cons r t _ ih => rw [List.reverse_cons, List.reverse_cons]; exact ih.append (.cons r .nil)
  | _ => trivial
theorem Reps.ints : ∀ {ns : List Int} {vs : List V}, Reps K G (ns.map PV.int) vs → vs = ns.map V.int
  | [], _, .nil => rfl
  | _ :: _, _, .cons (.int i) t => by rw [List.map_cons, Reps.ints t]
theorem reps_ints : ∀ (ns : List Int), Reps K G (ns.map PV.int) (ns.map V.int)
  | [] => .nil
  | i :: r => .cons (.int i) (reps_ints r)
theorem RepF.look {f : Str} : ∀ {fs : List (Str × PV)} {gs : List (Str × V)} {x : PV}, RepF K G fs gs → fs.lookup f = some x → ∃ v, gs.lookup f = some v ∧ Rep K G x v
  | _, _, _, .nil, e => by simp at e
  | (n, y) :: r, (_, v) :: s, x, .cons h t, e => by
    by_cases c : (f == n) = true
    · rw [List.lookup_cons, c] at e
      cases e
      exact ⟨v, by rw [List.lookup_cons, c], h⟩
    · have c' : (f == n) = false := by simpa using c
      rw [List.lookup_cons, c'] at e
      obtain ⟨u, h1, h2⟩ := RepF.look t e
      exact ⟨u, by rw [List.lookup_cons, c']; exact h1, h2⟩
theorem RepF.lookN {f : Str} : ∀ {fs : List (Str × PV)} {gs : List (Str × V)}, RepF K G fs gs → fs.lookup f = none → gs.lookup f = none
  | _, _, .nil, _ => rfl
  | (n, y) :: r, (_, v) :: s, .cons h t, e => by
    by_cases c : (f == n) = true
    · rw [List.lookup_cons, c] at e
      cases e
    · have c' : (f == n) = false := by simpa using c
      rw [List.lookup_cons, c'] at e
      rw [List.lookup_cons, c']
      exact RepF.lookN t e
theorem RepF.length : ∀ {fs : List (Str × PV)} {gs : List (Str × V)}, RepF K G fs gs → fs.length = gs.length
  | _, _, .nil => rfl
  | _, _, .cons _ t => congrArg (· + 1) (RepF.length t)
/-- as putF -/
def putP (f : Str) (v : PV) : List (Str × PV) → List (Str × PV)
  | [] => [(f, v)]
  | (g, u) :: r => if g = f then (g, v) :: r else (g, u) :: putP f v r
theorem RepF.put {f : Str} {x : PV} {v : V} (h : Rep K G x v) : ∀ {fs : List (Str × PV)} {gs : List (Str × V)}, RepF K G fs gs → RepF K G (putP f x fs) (putF f v gs)
  | _, _, .nil => .cons h .nil
  | (n, y) :: r, (_, u) :: s, .cons q t => by
    show RepF K G (if n = f then (n, x) :: r else (n, y) :: putP f x r) (if n = f then (n, v) :: s else (n, u) :: putF f v s)
    by_cases c : n = f
    · rw [if_pos c, if_pos c]
      exact .cons h t
    · rw [if_neg c, if_neg c]
      exact .cons q (RepF.put h t)
end

/-! ### the steps of the heap: H what is tracked, G the part of it that values may lie in -/
structure Step (G H G' H' : Hp) : Prop where
  hh : Same H H'
  gg : Same G G'
  gh : Same G' H'
  new : ∀ a o, G' a = some o → G a = none → H a = none
theorem Step.refl {G H : Hp} (h : Same G H) : Step G H G H := ⟨Same.refl _, Same.refl _, h, fun a o e n => by rw [e] at n; cases n⟩
theorem Step.trans {G H G1 H1 G2 H2 : Hp} (a : Step G H G1 H1) (b : Step G1 H1 G2 H2) : Step G H G2 H2 := by
  refine ⟨a.hh.trans b.hh, a.gg.trans b.gg, b.gh, fun x o e n => ?_⟩
  cases q : G1 x with
  | some u => exact a.new x u q n
  | none => exact a.hh.free (b.new x o e q)
/-- a new object that values may lie in -/
theorem Step.alloc {G H : Hp} (h : Same G H) {p : Addr} {o : HO} (hp : H p = none) : Step G H (upd G p o) (upd H p o) := by
  have hg : G p = none := h.free hp
  refine ⟨fun a u e => by rw [upd_ne (ne_of_none e hp)]; exact e, fun a u e => by rw [upd_ne (ne_of_none e hg)]; exact e, fun a u e => ?_, fun a u e n => ?_⟩
  · by_cases c : a = p
    · subst c; rw [upd_same] at e ⊢; exact e
    · rw [upd_ne c] at e ⊢; exact h _ _ e
  · by_cases c : a = p
    · subst c; exact hp
    · rw [upd_ne c] at e; rw [e] at n; cases n
/-- a new object that is not to be seen as yet -/
theorem Step.hid {G H : Hp} (h : Same G H) {p : Addr} {o : HO} (hp : H p = none) : Step G H G (upd H p o) :=
  ⟨fun a u e => by rw [upd_ne (ne_of_none e hp)]; exact e, Same.refl _, fun a u e => by rw [upd_ne (ne_of_none (h _ _ e) hp)]; exact h _ _ e, fun a o e n => by rw [e] at n; cases n⟩

/-! ### the slots -/
inductive Sl where
  /-- a value -/
  | pv (x : PV)
  /-- a list that this def made and may change -/
  | own (xs : List PV)
  /-- an instance that is being made -/
  | ins (a C : Addr) (fs : List (Str × PV))
  /-- the exception that an except suite holds: at a, its dict at d -/
  | exc (a d C : Addr) (fs : List (Str × PV))
abbrev PSt := List (Option Sl)
/-- an exception: its class, its fields -/
structure PX where
  C : Addr
  fs : List (Str × PV)
def RepX (K : PySem.W.Frag) (G H : Hp) (p : PX) (d : Addr) : Prop := ∃ gs, H d = some (.xd gs) ∧ RepF K G p.fs gs

section
variable (K : PySem.W.Frag)
structure RelS (Gb Hb : Hp) (ρ : PSt) (σ : L2.St) (G H : Hp) : Prop where
  step : Step Gb Hb G H
  len : ρ.length = σ.length
  val : ∀ (i : Nat) (x : PV), ρ[i]? = some (some (.pv x)) → ∃ v, σ[i]? = some (some v) ∧ Rep K G x v
  own : ∀ (i : Nat) (xs : List PV), ρ[i]? = some (some (.own xs)) → ∃ (a : Addr) (vs : List V), σ[i]? = some (some (.ref a)) ∧ H a = some (.lst vs) ∧ Reps K G xs vs ∧ G a = none ∧ Hb a = none
  ins : ∀ (i : Nat) (a C : Addr) (fs : List (Str × PV)), ρ[i]? = some (some (.ins a C fs)) → ∃ (dx : Addr) (gs : List (Str × V)), σ[i]? = some (some (.ref a)) ∧ H a = some (.ins C dx gs) ∧ RepF K G fs gs ∧ G a = none ∧ Hb a = none
  exc : ∀ (i : Nat) (a d C : Addr) (fs : List (Str × PV)), ρ[i]? = some (some (.exc a d C fs)) → σ[i]? = some (some (.ref a)) ∧ RepX K G H ⟨C, fs⟩ d
  one : ∀ (i j : Nat) (a C b D : Addr) (fs gs : List (Str × PV)), ρ[i]? = some (some (.ins a C fs)) → ρ[j]? = some (some (.ins b D gs)) → i = j
  sep : ∀ (i j : Nat) (xs ys : List PV) (a : Addr), ρ[i]? = some (some (.own xs)) → ρ[j]? = some (some (.own ys)) → σ[i]? = some (some (.ref a)) → σ[j]? = some (some (.ref a)) → i = j
end

section
variable {K : PySem.W.Frag} {Gb Hb G H G' H' : Hp} {ρ : PSt} {σ : L2.St}
theorem RepX.mono {p : PX} {d : Addr} (s : Step G H G' H') (r : RepX K G H p d) : RepX K G' H' p d := by
  obtain ⟨gs, h, f⟩ := r
  exact ⟨gs, s.hh _ _ h, f.mono s.gg⟩
theorem Step.hidden (s : Step G H G' H') {a : Addr} {o : HO} (h : H a = some o) (g : G a = none) : G' a = none := by
  cases q : G' a with
  | none => rfl
  | some u => rw [s.new a u q g] at h; cases h
theorem RelS.mono (r : RelS K Gb Hb ρ σ G H) (s : Step G H G' H') : RelS K Gb Hb ρ σ G' H' where
  step := r.step.trans s
  len := r.len
  val := fun i x e => by
    obtain ⟨v, h1, h2⟩ := r.val i x e
    exact ⟨v, h1, h2.mono s.gg⟩
  own := fun i xs e => by
    obtain ⟨a, vs, h1, h2, h3, h4, h5⟩ := r.own i xs e
    exact ⟨a, vs, h1, s.hh _ _ h2, h3.mono s.gg, s.hidden h2 h4, h5⟩
  ins := fun i a C fs e => by
    obtain ⟨dx, gs, h1, h2, h3, h4, h5⟩ := r.ins i a C fs e
    exact ⟨dx, gs, h1, s.hh _ _ h2, h3.mono s.gg, s.hidden h2 h4, h5⟩
  exc := fun i a d C fs e => by
    obtain ⟨h1, h2⟩ := r.exc i a d C fs e
    exact ⟨h1, h2.mono s⟩
  one := r.one
  sep := r.sep
theorem RelS.gh (r : RelS K Gb Hb ρ σ G H) : Same G H := r.step.gh
theorem set_get {α : Type} {l : List α} {i j : Nat} {x y : α} (h : (l.set i x)[j]? = some y) : (i = j ∧ y = x ∧ i < l.length) ∨ (i ≠ j ∧ l[j]? = some y) := by
  by_cases c : i = j
  · subst c
    by_cases hl : i < l.length
    · rw [List.getElem?_set_self hl] at h
      exact .inl ⟨rfl, (Option.some.inj h).symm, hl⟩
    · rw [List.getElem?_eq_none (by simpa using hl)] at h
      cases h
  · rw [List.getElem?_set_ne c] at h
    exact .inr ⟨c, h⟩
/-- a slot is stored: a value -/
theorem RelS.set (r : RelS K Gb Hb ρ σ G H) (i : Nat) {x : PV} {v : V} (h : Rep K G x v) : RelS K Gb Hb (ρ.set i (some (.pv x))) (σ.set i (some v)) G H where
  step := r.step
  len := by simp [r.len]
  val := fun j y e => by
    rcases set_get e with ⟨rfl, e, hl⟩ | ⟨n, e⟩
    · cases e
      exact ⟨v, List.getElem?_set_self (by rw [← r.len]; exact hl), h⟩
    · obtain ⟨u, h1, h2⟩ := r.val j y e
      exact ⟨u, by rw [List.getElem?_set_ne n]; exact h1, h2⟩
  own := fun j xs e => by
    rcases set_get e with ⟨rfl, e, hl⟩ | ⟨n, e⟩
    · cases e
    · obtain ⟨a, vs, h1, h2⟩ := r.own j xs e
      exact ⟨a, vs, by rw [List.getElem?_set_ne n]; exact h1, h2⟩
  ins := fun j a C fs e => by
    rcases set_get e with ⟨rfl, e, hl⟩ | ⟨n, e⟩
    · cases e
    · obtain ⟨dx, gs, h1, h2⟩ := r.ins j a C fs e
      exact ⟨dx, gs, by rw [List.getElem?_set_ne n]; exact h1, h2⟩
  exc := fun j a d C fs e => by
    rcases set_get e with ⟨rfl, e, hl⟩ | ⟨n, e⟩
    · cases e
    · obtain ⟨h1, h2⟩ := r.exc j a d C fs e
      exact ⟨by rw [List.getElem?_set_ne n]; exact h1, h2⟩
  one := fun j k a C b D fs gs e1 e2 => by
    rcases set_get e1 with ⟨rfl, e, hl⟩ | ⟨n1, e1⟩
    · cases e
    · rcases set_get e2 with ⟨rfl, e, hl⟩ | ⟨n2, e2⟩
      · cases e
      · exact r.one j k _ C _ D fs gs e1 e2
  sep := fun j k xs ys a e1 e2 s1 s2 => by
    rcases set_get e1 with ⟨rfl, e, hl⟩ | ⟨n1, e1⟩
    · cases e
    · rcases set_get e2 with ⟨rfl, e, hl⟩ | ⟨n2, e2⟩
      · cases e
      · rw [List.getElem?_set_ne n1] at s1
        rw [List.getElem?_set_ne n2] at s2
        exact r.sep j k xs ys a e1 e2 s1 s2
/-- a slot is forgotten -/
theorem RelS.drop (r : RelS K Gb Hb ρ σ G H) (i : Nat) (w : Option V) : RelS K Gb Hb (ρ.set i none) (σ.set i w) G H where
  step := r.step
  len := by simp [r.len]
  val := fun j y e => by
    rcases set_get e with ⟨rfl, e, hl⟩ | ⟨n, e⟩
    · cases e
    · obtain ⟨u, h1, h2⟩ := r.val j y e
      exact ⟨u, by rw [List.getElem?_set_ne n]; exact h1, h2⟩
  own := fun j xs e => by
    rcases set_get e with ⟨rfl, e, hl⟩ | ⟨n, e⟩
    · cases e
    · obtain ⟨a, vs, h1, h2⟩ := r.own j xs e
      exact ⟨a, vs, by rw [List.getElem?_set_ne n]; exact h1, h2⟩
  ins := fun j a C fs e => by
    rcases set_get e with ⟨rfl, e, hl⟩ | ⟨n, e⟩
    · cases e
    · obtain ⟨dx, gs, h1, h2⟩ := r.ins j a C fs e
      exact ⟨dx, gs, by rw [List.getElem?_set_ne n]; exact h1, h2⟩
  exc := fun j a d C fs e => by
    rcases set_get e with ⟨rfl, e, hl⟩ | ⟨n, e⟩
    · cases e
    · obtain ⟨h1, h2⟩ := r.exc j a d C fs e
      exact ⟨by rw [List.getElem?_set_ne n]; exact h1, h2⟩
  one := fun j k a C b D fs gs e1 e2 => by
    rcases set_get e1 with ⟨rfl, e, hl⟩ | ⟨n1, e1⟩
    · cases e
    · rcases set_get e2 with ⟨rfl, e, hl⟩ | ⟨n2, e2⟩
      · cases e
      · exact r.one j k _ C _ D fs gs e1 e2
  sep := fun j k xs ys a e1 e2 s1 s2 => by
    rcases set_get e1 with ⟨rfl, e, hl⟩ | ⟨n1, e1⟩
    · cases e
    · rcases set_get e2 with ⟨rfl, e, hl⟩ | ⟨n2, e2⟩
      · cases e
      · rw [List.getElem?_set_ne n1] at s1
        rw [List.getElem?_set_ne n2] at s2
        exact r.sep j k xs ys a e1 e2 s1 s2
/-- a slot is stored: a new list of one's own -/
theorem RelS.setOwn (r : RelS K Gb Hb ρ σ G H) (i : Nat) {p : Addr} {xs : List PV} {vs : List V} (hp : H p = some (.lst vs)) (h : Reps K G xs vs) (hg : G p = none) (hb : Hb p = none)
    (hn : ∀ (j : Nat) (ys : List PV), ρ[j]? = some (some (.own ys)) → σ[j]? ≠ some (some (.ref p))) : RelS K Gb Hb (ρ.set i (some (.own xs))) (σ.set i (some (.ref p))) G H where
  step := r.step
  len := by simp [r.len]
  val := fun j y e => by
    rcases set_get e with ⟨rfl, e, hl⟩ | ⟨n, e⟩
    · cases e
    · obtain ⟨u, h1, h2⟩ := r.val j y e
      exact ⟨u, by rw [List.getElem?_set_ne n]; exact h1, h2⟩
  own := fun j ys e => by
    rcases set_get e with ⟨rfl, e, hl⟩ | ⟨n, e⟩
    · cases e
      exact ⟨p, vs, List.getElem?_set_self (by rw [← r.len]; exact hl), hp, h, hg, hb⟩
    · obtain ⟨a, vs, h1, h2⟩ := r.own j ys e
      exact ⟨a, vs, by rw [List.getElem?_set_ne n]; exact h1, h2⟩
  ins := fun j a C fs e => by
    rcases set_get e with ⟨rfl, e, hl⟩ | ⟨n, e⟩
    · cases e
    · obtain ⟨dx, gs, h1, h2⟩ := r.ins j a C fs e
      exact ⟨dx, gs, by rw [List.getElem?_set_ne n]; exact h1, h2⟩
  exc := fun j a d C fs e => by
    rcases set_get e with ⟨rfl, e, hl⟩ | ⟨n, e⟩
    · cases e
    · obtain ⟨h1, h2⟩ := r.exc j a d C fs e
      exact ⟨by rw [List.getElem?_set_ne n]; exact h1, h2⟩
  one := fun j k a C b D fs gs e1 e2 => by
    rcases set_get e1 with ⟨rfl, e, hl⟩ | ⟨n1, e1⟩
    · cases e
    · rcases set_get e2 with ⟨rfl, e, hl⟩ | ⟨n2, e2⟩
      · cases e
      · exact r.one j k _ C _ D fs gs e1 e2
  sep := fun j k ys zs a e1 e2 s1 s2 => by
    rcases set_get e1 with ⟨rfl, e, hl⟩ | ⟨n1, e1⟩
    · rcases set_get e2 with ⟨rfl, e', hl'⟩ | ⟨n2, e2⟩
      · rfl
      · rw [List.getElem?_set_self (by rw [← r.len]; exact hl)] at s1
        cases s1
        rw [List.getElem?_set_ne n2] at s2
        exact absurd s2 (hn k zs e2)
    · rcases set_get e2 with ⟨rfl, e', hl'⟩ | ⟨n2, e2⟩
      · rw [List.getElem?_set_self (by rw [← r.len]; exact hl')] at s2
        cases s2
        rw [List.getElem?_set_ne n1] at s1
        exact absurd s1 (hn j ys e1)
      · rw [List.getElem?_set_ne n1] at s1
        rw [List.getElem?_set_ne n2] at s2
        exact r.sep j k ys zs a e1 e2 s1 s2
/-- the own list at slot i changes -/
theorem RelS.turn (r : RelS K Gb Hb ρ σ G H) {i : Nat} {a : Addr} {xs ys : List PV} {vs ws : List V} (e : ρ[i]? = some (some (.own xs))) (hs : σ[i]? = some (some (.ref a))) (ha : H a = some (.lst vs))
    (h : Reps K G ys ws) : RelS K Gb Hb (ρ.set i (some (.own ys))) σ G (upd H a (.lst ws)) := by
  obtain ⟨a', vs', q1, q2, q3, q4, q5⟩ := r.own i xs e
  rw [hs] at q1
  cases q1
  have hne : ∀ b o, G b = some o → b ≠ a := fun b o e => ne_of_none e q4
  have il : i < ρ.length := by
    rcases Nat.lt_or_ge i ρ.length with h | h
    · exact h
    · rw [List.getElem?_eq_none h] at e; cases e
  refine ⟨⟨fun b o q => ?_, r.step.gg, fun b o q => ?_, r.step.new⟩, by simp [r.len], fun j y q => ?_, fun j zs q => ?_, fun j b C fs q => ?_, fun j b d C fs q => ?_, fun j k b1 C b2 D fs gs e1 e2 => ?_, fun j k us zs b e1 e2 s1 s2 => ?_⟩
  · rw [upd_ne (ne_of_none q q5)]
    exact r.step.hh _ _ q
  · rw [upd_ne (hne b o q)]
    exact r.step.gh _ _ q
  · rcases set_get q with ⟨rfl, q, hl⟩ | ⟨n, q⟩
    · cases q
    · exact r.val j y q
  · rcases set_get q with ⟨rfl, q, hl⟩ | ⟨n, q⟩
    · cases q
      exact ⟨a, ws, hs, upd_same, h, q4, q5⟩
    · obtain ⟨b, us, h1, h2, h3, h4, h5⟩ := r.own j zs q
      have hab : b ≠ a := fun z => by
        subst z
        exact n (r.sep i j xs zs b e q hs h1)
      exact ⟨b, us, h1, by rw [upd_ne hab]; exact h2, h3, h4, h5⟩
  · rcases set_get q with ⟨rfl, q, hl⟩ | ⟨n, q⟩
    · cases q
    · obtain ⟨dx, gs, h1, h2, h3, h4, h5⟩ := r.ins j b C fs q
      exact ⟨dx, gs, h1, by rw [upd_ne (ne_of h2 ha (by intro z; cases z))]; exact h2, h3, h4, h5⟩
  · rcases set_get q with ⟨rfl, q, hl⟩ | ⟨n, q⟩
    · cases q
    · obtain ⟨h1, gs, h2, h3⟩ := r.exc j b d C fs q
      exact ⟨h1, gs, by rw [upd_ne (ne_of h2 ha (by intro z; cases z))]; exact h2, h3⟩
  · rcases set_get e1 with ⟨rfl, e, hl⟩ | ⟨n1, e1⟩
    · cases e
    · rcases set_get e2 with ⟨rfl, e, hl⟩ | ⟨n2, e2⟩
      · cases e
      · exact r.one j k _ C _ D fs gs e1 e2
  · have f : ∀ {j : Nat} {zs : List PV}, (ρ.set i (some (.own ys)))[j]? = some (some (.own zs)) → ∃ zs', ρ[j]? = some (some (.own zs')) := fun {j zs} q => by
      rcases set_get q with ⟨rfl, q, hl⟩ | ⟨n, q⟩
      · exact ⟨xs, e⟩
      · exact ⟨zs, q⟩
    obtain ⟨u1, f1⟩ := f e1
    obtain ⟨u2, f2⟩ := f e2
    exact r.sep j k u1 u2 b f1 f2 s1 s2
/-- the own list at slot i is let be: from now on a value -/
theorem RelS.freeze (r : RelS K Gb Hb ρ σ G H) {i : Nat} {xs : List PV} (e : ρ[i]? = some (some (.own xs))) : ∃ G', RelS K Gb Hb (ρ.set i (some (.pv (.lst xs)))) σ G' H ∧ Same G G' := by
  obtain ⟨a, vs, q1, q2, q3, q4, q5⟩ := r.own i xs e
  have gg : Same G (upd G a (.lst vs)) := fun b o z => by rw [upd_ne (ne_of_none z q4)]; exact z
  refine ⟨upd G a (.lst vs), ⟨⟨r.step.hh, r.step.gg.trans gg, fun b o z => ?_, fun b o z n => ?_⟩, by simp [r.len], fun j y q => ?_, fun j zs q => ?_, fun j b C fs q => ?_, fun j b d C fs q => ?_, fun j k b1 C b2 D fs gs e1 e2 => ?_, fun j k us zs b e1 e2 s1 s2 => ?_⟩, gg⟩
  · by_cases c : b = a
    · subst c; rw [upd_same] at z; cases z; exact q2
    · rw [upd_ne c] at z; exact r.step.gh _ _ z
  · by_cases c : b = a
    · subst c; exact q5
    · rw [upd_ne c] at z; exact r.step.new b o z n
  · rcases set_get q with ⟨rfl, q, hl⟩ | ⟨n, q⟩
    · cases q
      exact ⟨.ref a, q1, .lst (SqL.of upd_same) (q3.mono gg)⟩
    · obtain ⟨v, h1, h2⟩ := r.val j y q
      exact ⟨v, h1, h2.mono gg⟩
  · rcases set_get q with ⟨rfl, q, hl⟩ | ⟨n, q⟩
    · cases q
    · obtain ⟨b, us, h1, h2, h3, h4, h5⟩ := r.own j zs q
      have hab : b ≠ a := fun z => by
        subst z
        exact n (r.sep i j xs zs b e q q1 h1)
      exact ⟨b, us, h1, h2, h3.mono gg, by rw [upd_ne hab]; exact h4, h5⟩
  · rcases set_get q with ⟨rfl, q, hl⟩ | ⟨n, q⟩
    · cases q
    · obtain ⟨dx, gs, h1, h2, h3, h4, h5⟩ := r.ins j b C fs q
      exact ⟨dx, gs, h1, h2, h3.mono gg, by rw [upd_ne (ne_of h2 q2 (by intro z; cases z))]; exact h4, h5⟩
  · rcases set_get q with ⟨rfl, q, hl⟩ | ⟨n, q⟩
    · cases q
    · obtain ⟨h1, gs, h2, h3⟩ := r.exc j b d C fs q
      exact ⟨h1, gs, h2, h3.mono gg⟩
  · rcases set_get e1 with ⟨rfl, e, hl⟩ | ⟨n1, e1⟩
    · cases e
    · rcases set_get e2 with ⟨rfl, e, hl⟩ | ⟨n2, e2⟩
      · cases e
      · exact r.one j k _ C _ D fs gs e1 e2
  · have f : ∀ {j : Nat} {zs : List PV}, (ρ.set i (some (.pv (.lst xs))))[j]? = some (some (.own zs)) → ρ[j]? = some (some (.own zs)) := fun {j zs} q => by
      rcases set_get q with ⟨rfl, q, hl⟩ | ⟨n, q⟩
      · cases q
      · exact q
    exact r.sep j k us zs b (f e1) (f e2) s1 s2
/-- a field of the instance that is being made -/
theorem RelS.fld (r : RelS K Gb Hb ρ σ G H) {i : Nat} {a C dx : Addr} {fs fs' : List (Str × PV)} {gs gs' : List (Str × V)} (e : ρ[i]? = some (some (.ins a C fs)))
    (ha : H a = some (.ins C dx gs)) (h : RepF K G fs' gs') : RelS K Gb Hb (ρ.set i (some (.ins a C fs'))) σ G (upd H a (.ins C dx gs')) := by
  obtain ⟨dx', gs0, hs, q2, q3, q4, q5⟩ := r.ins i a C fs e
  have hne : ∀ b o, G b = some o → b ≠ a := fun b o e => ne_of_none e q4
  refine ⟨⟨fun b o q => ?_, r.step.gg, fun b o q => ?_, r.step.new⟩, by simp [r.len], fun j y q => ?_, fun j zs q => ?_, fun j b C' fs'' q => ?_, fun j b d C' fs'' q => ?_, fun j k b1 C1 b2 C2 fs1 fs2 e1 e2 => ?_, fun j k us zs b e1 e2 s1 s2 => ?_⟩
  · rw [upd_ne (ne_of_none q q5)]
    exact r.step.hh _ _ q
  · rw [upd_ne (hne b o q)]
    exact r.step.gh _ _ q
  · rcases set_get q with ⟨rfl, q, hl⟩ | ⟨n, q⟩
    · cases q
    · exact r.val j y q
  · rcases set_get q with ⟨rfl, q, hl⟩ | ⟨n, q⟩
    · cases q
    · obtain ⟨b, us, h1, h2, h3⟩ := r.own j zs q
      exact ⟨b, us, h1, by rw [upd_ne (ne_of h2 ha (by intro z; cases z))]; exact h2, h3⟩
  · rcases set_get q with ⟨rfl, q, hl⟩ | ⟨n, q⟩
    · cases q
      exact ⟨dx, gs', hs, upd_same, h, q4, q5⟩
    · exact absurd (r.one i j _ C _ C' fs fs'' e q) n
  · rcases set_get q with ⟨rfl, q, hl⟩ | ⟨n, q⟩
    · cases q
    · obtain ⟨h1, gs, h2, h3⟩ := r.exc j b d C' fs'' q
      exact ⟨h1, gs, by rw [upd_ne (ne_of h2 ha (by intro z; cases z))]; exact h2, h3⟩
  · have f : ∀ {j : Nat} {b C' : Addr} {zs : List (Str × PV)}, (ρ.set i (some (.ins a C fs')))[j]? = some (some (.ins b C' zs)) → ∃ b' C'' zs', ρ[j]? = some (some (.ins b' C'' zs')) := fun {j b C' zs} q => by
      rcases set_get q with ⟨rfl, q, hl⟩ | ⟨n, q⟩
      · exact ⟨a, C, fs, e⟩
      · exact ⟨b, C', zs, q⟩
    obtain ⟨_, _, _, f1⟩ := f e1
    obtain ⟨_, _, _, f2⟩ := f e2
    exact r.one j k _ _ _ _ _ _ f1 f2
  · have f : ∀ {j : Nat} {zs : List PV}, (ρ.set i (some (.ins a C fs')))[j]? = some (some (.own zs)) → ρ[j]? = some (some (.own zs)) := fun {j zs} q => by
      rcases set_get q with ⟨rfl, q, hl⟩ | ⟨n, q⟩
      · cases q
      · exact q
    exact r.sep j k us zs b (f e1) (f e2) s1 s2

/-! ### another ground: what a loop walks must stay -/
def join (G H : Hp) : Hp := fun b => match G b with
  | some o => some o
  | none => H b
theorem join_none {G H : Hp} {b : Addr} (h : join G H b = none) : G b = none ∧ H b = none := by
  unfold join at h
  cases q : G b with
  | some o => rw [q] at h; cases h
  | none => rw [q] at h; exact ⟨rfl, h⟩
theorem join_of {G H : Hp} {b : Addr} (g : G b = none) (h : H b = none) : join G H b = none := by unfold join; rw [g]; exact h
theorem join_some {G H : Hp} {b : Addr} {o : HO} (h : join G H b = some o) : G b = some o ∨ (G b = none ∧ H b = some o) := by
  unfold join at h
  cases q : G b with
  | some o => rw [q] at h; exact .inl h
  | none => rw [q] at h; exact .inr ⟨rfl, h⟩
theorem RelS.rebase (r : RelS K Gb Hb ρ σ G H) : RelS K G (join G Hb) ρ σ G H where
  step := ⟨fun b o e => (join_some e).elim (r.gh _ _) fun z => r.step.hh _ _ z.2, Same.refl _, r.gh, fun a o e n => by rw [e] at n; cases n⟩
  len := r.len
  val := r.val
  own := fun i xs e => by
    obtain ⟨a, vs, h1, h2, h3, h4, h5⟩ := r.own i xs e
    exact ⟨a, vs, h1, h2, h3, h4, join_of h4 h5⟩
  ins := fun i a C fs e => by
    obtain ⟨dx, gs, h1, h2, h3, h4, h5⟩ := r.ins i a C fs e
    exact ⟨dx, gs, h1, h2, h3, h4, join_of h4 h5⟩
  exc := r.exc
  one := r.one
  sep := r.sep
theorem Step.unbase {G2 H2 : Hp} (s : Step Gb Hb G H) (t : Step G (join G Hb) G2 H2) : Step Gb Hb G2 H2 where
  hh := fun b o e => by
    cases q : G b with
    | some u =>
      have h1 := s.hh _ _ e
      have h2 := s.gh _ _ q
      rw [h1] at h2
      cases h2
      exact t.gh _ _ (t.gg _ _ q)
    | none => exact t.hh _ _ (by unfold join; rw [q]; exact e)
  gg := s.gg.trans t.gg
  gh := t.gh
  new := fun b o e n => by
    cases q : G b with
    | some u => exact s.new b u q n
    | none => exact (join_none (t.new b o e q)).2
theorem RelS.unbase {ρ' : PSt} {σ' : L2.St} {G2 H2 : Hp} (s : Step Gb Hb G H) (r : RelS K G (join G Hb) ρ' σ' G2 H2) : RelS K Gb Hb ρ' σ' G2 H2 where
  step := s.unbase r.step
  len := r.len
  val := r.val
  own := fun i xs e => by
    obtain ⟨a, vs, h1, h2, h3, h4, h5⟩ := r.own i xs e
    exact ⟨a, vs, h1, h2, h3, h4, (join_none h5).2⟩
  ins := fun i a C fs e => by
    obtain ⟨dx, gs, h1, h2, h3, h4, h5⟩ := r.ins i a C fs e
    exact ⟨dx, gs, h1, h2, h3, h4, (join_none h5).2⟩
  exc := r.exc
  one := r.one
  sep := r.sep
end
end QL

set_option maxHeartbeats 2000000
namespace QL
open PySem PySem.Spec PyProof.Rows L2

/-! ### weaker readings -/
section
variable {X : Cx}
theorem PE.imp {e : Expr} {t t' : TE} (h : PE X e t) (i : ∀ σ H Q, t' σ H Q → t σ H Q) : PE X e t' := ⟨fun pins s σ H Q I w => h.run pins s σ H Q I (i σ H Q w)⟩
theorem PT.imp {e : Expr} {t t' : TT} (h : PT X e t) (i : ∀ σ H Q, t' σ H Q → t σ H Q) : PT X e t' := ⟨fun pins s σ H Q I w => h.run pins s σ H Q I (i σ H Q w)⟩
theorem PW.imp {e : Expr} {t t' : TT} (h : PW X e t) (i : ∀ σ H Q, t' σ H Q → t σ H Q) : PW X e t' := ⟨fun wh pins s σ H Q I w => h.run wh pins s σ H Q I (i σ H Q w)⟩
theorem PA.imp {e : List Expr} {t t' : TA} (h : PA X e t) (i : ∀ σ H Q, t' σ H Q → t σ H Q) : PA X e t' := ⟨fun pos pins s σ H Q I w => h.run pos pins s σ H Q I (i σ H Q w)⟩
theorem PS.imp {e : Stmt} {t t' : TS} (h : PS X e t) (i : ∀ D σ H, t' D σ H → t D σ H) : PS X e t' := ⟨fun pins s σ H D I w => h.run pins s σ H D I (i D σ H w)⟩
theorem PSs.imp {e : List Stmt} {t t' : TS} (h : PSs X e t) (i : ∀ D σ H, t' D σ H → t D σ H) : PSs X e t' := ⟨fun pins s σ H D I w => h.run pins s σ H D I (i D σ H w)⟩
end

/-! ### the pure judgements -/
abbrev Y := PX → Prop
abbrev QE := PSt → Y → (PV → Prop) → Prop
abbrev QT := PSt → Y → (Bool → Prop) → Prop
abbrev QA := PSt → Y → (List PV → Prop) → Prop
/-- what is wished of an exception that leaves here -/
def ExOk (K : PySem.W.Frag) (W : WX) (σ : L2.St) (G H : Hp) (y : Y) : Prop := ∀ p d G' H', Step G H G' H' → RepX K G' H' p d → y p → W (.ref p.C) (some d) σ H'
theorem ExOk.mono {K : PySem.W.Frag} {W : WX} {σ : L2.St} {G H G' H' : Hp} {y : Y} (h : ExOk K W σ G H y) (s : Step G H G' H') : ExOk K W σ G' H' y := fun p d G2 H2 s2 r q => h p d G2 H2 (s.trans s2) r q

def tJ (K : PySem.W.Frag) (W : WX) (q : QE) : TE := fun σ H Qh => ∃ (Gb Hb : Hp) (ρ : PSt) (G : Hp) (y : Y) (Q : PV → Prop), RelS K Gb Hb ρ σ G H ∧ ExOk K W σ G H y ∧ q ρ y Q ∧ ∀ x v G' H', Step G H G' H' → Rep K G' x v → Q x → Qh v H'
def tTJ (K : PySem.W.Frag) (W : WX) (q : QT) : TT := fun σ H Qh => ∃ (Gb Hb : Hp) (ρ : PSt) (G : Hp) (y : Y) (Q : Bool → Prop), RelS K Gb Hb ρ σ G H ∧ ExOk K W σ G H y ∧ q ρ y Q ∧ ∀ b G' H', Step G H G' H' → Q b → Qh b H'
def tAJ (K : PySem.W.Frag) (W : WX) (q : QA) : TA := fun σ H Qh => ∃ (Gb Hb : Hp) (ρ : PSt) (G : Hp) (y : Y) (Q : List PV → Prop), RelS K Gb Hb ρ σ G H ∧ ExOk K W σ G H y ∧ q ρ y Q ∧ ∀ xs vs G' H', Step G H G' H' → Reps K G' xs vs → Q xs → Qh vs H'
abbrev JE (X : Cx) (W : WX) (e : Expr) (q : QE) : Prop := PE X e (tJ X.K W q)
abbrev JT (X : Cx) (W : WX) (e : Expr) (q : QT) : Prop := PT X e (tTJ X.K W q)
abbrev JW (X : Cx) (W : WX) (e : Expr) (q : QT) : Prop := PW X e (tTJ X.K W q)
abbrev JA (X : Cx) (W : WX) (e : List Expr) (q : QA) : Prop := PA X e (tAJ X.K W q)

/-! ### names, constants -/
def qVar (i : Nat) : QE := fun ρ _ Q => match ρ[i]? with
  | some (some (.pv x)) => Q x
  | _ => False
def qC (x : PV) : QE := fun _ _ Q => Q x
section
variable {X : Cx} {W : WX}
theorem je_var (i : Nat) {x : Str} {pos : Pos} (hN : X.N[i]? = some x := by rfl) (hv : Vis X.env.scope x := by first | exact Or.inl rfl | exact Or.inr (Or.inl rfl) | exact Or.inr (Or.inr rfl)) (hd : (x == ("__debug__" : Str)) = false := by decide)
    (hcd : (x == ("__classdict__" : Str)) = false := by decide) : JE X W (.Name x pos) (qVar i) := by
  refine PE.imp (pe_var hN hv hd hcd) fun σ H Qh ⟨Gb, Hb, ρ, G, y, Q, R, _, q, k⟩ => ?_
  unfold qVar at q
  split at q
  · rename_i x e
    obtain ⟨v, h1, h2⟩ := R.val i x e
    exact ⟨v, h1, k x v G H (.refl R.gh) h2 q⟩
  · exact q.elim
theorem je_c {e : Expr} {x : PV} {v : V} (h : PE X e (tC v)) (r : ∀ G, Rep X.K G x v) : JE X W e (qC x) := PE.imp h fun σ H Qh ⟨Gb, Hb, ρ, G, y, Q, R, _, q, k⟩ => k x v G H (.refl R.gh) (r G) q
theorem je_int {i j pos} : JE X W (.Constant (.int i) j pos) (qC (.int i)) := je_c pe_int fun _ => .int i
theorem je_bl {b j pos} : JE X W (.Constant (.bool b) j pos) (qC (.bl b)) := je_c pe_bl fun _ => .bl b
theorem je_non {j pos} : JE X W (.Constant .none j pos) (qC .non) := je_c pe_non fun _ => .non
theorem je_str {x j pos} : JE X W (.Constant (.str x) j pos) (qC (.str x)) := je_c pe_str fun _ => .str x
/-- a class or a def of the module as a value -/
theorem je_cls {x : Str} {a : Addr} {pos : Pos} (hm : X.mg x = some (.ref a)) (hg : Gl X x := by rfl) (hd : (x == ("__debug__" : Str)) = false := by decide) : JE X W (.Name x pos) (qC (.adr a)) := je_c (pe_glob (v := .ref a) hg hm rfl hd) fun _ => .adr a
/-- a constant int of the module -/
theorem je_gint {x : Str} {i : Int} {t : Tok} {pos : Pos} (hm : X.mg x = some (.int i t)) (hg : Gl X x := by rfl) (hd : (x == ("__debug__" : Str)) = false := by decide) : JE X W (.Name x pos) (qC (.int i)) := je_c (pe_glob (v := .int i) hg hm ⟨t, rfl⟩ hd) fun _ => .int i
theorem je_gstr {x : Str} {i : Str} {t : Tok} {pos : Pos} (hm : X.mg x = some (.str i t)) (hg : Gl X x := by rfl) (hd : (x == ("__debug__" : Str)) = false := by decide) : JE X W (.Name x pos) (qC (.str i)) := je_c (pe_glob (v := .str i) hg hm ⟨t, rfl⟩ hd) fun _ => .str i
theorem je_ty {x : Str} {n : String} {pos : Pos} (hm : X.mg x = none) (hv : bootBuiltins x = some (.type n) := by decide +kernel) (hg : Gl X x := by rfl) (hn : x ≠ "__name__" := by decide) (hd : (x == ("__debug__" : Str)) = false := by decide) : JE X W (.Name x pos) (qC (.ty n)) :=
  je_c (pe_bltn (v := .ty n) hg hm hv rfl hn hd) fun _ => .ty n
end

/-! ### operators on two values -/
abbrev Q2 := PV → PV → (PV → Prop) → Prop
def qOp (r : Q2) (qa qb : QE) : QE := fun ρ y Q => qa ρ y fun x => qb ρ y fun z => r x z Q
/-- r' says enough for r -/
def Snd2 (K : PySem.W.Frag) (r : R2) (r' : Q2) : Prop := ∀ x z v w G H (Q : PV → Prop) (Qh : VK), Same G H → Rep K G x v → Rep K G z w → r' x z Q → (∀ x v G' H', Step G H G' H' → Rep K G' x v → Q x → Qh v H') → r v w H Qh
section
variable {X : Cx} {W : WX} {a b : Expr} {qa qb : QE} {pos : Pos}
theorem snd2 {K : PySem.W.Frag} {r : R2} {r' : Q2} (s : Snd2 K r r') {σ : L2.St} {H : Hp} {Qh : VK} (h : tJ K W (qOp r' qa qb) σ H Qh) : tOp r (tJ K W qa) (tJ K W qb) σ H Qh := by
  obtain ⟨Gb, Hb, ρ, G, y, Q, R, E, q, k⟩ := h
  refine ⟨Gb, Hb, ρ, G, y, _, R, E, q, fun x v G1 H1 s1 r1 q1 => ?_⟩
  refine ⟨Gb, Hb, ρ, G1, y, _, R.mono s1, E.mono s1, q1, fun z w G2 H2 s2 r2 q2 => ?_⟩
  exact s x z v w G2 H2 Q Qh s2.gh (r1.mono s2.gg) r2 q2 fun x' v' G3 H3 s3 r3 q3 => k x' v' G3 H3 ((s1.trans s2).trans s3) r3 q3
theorem je_op {op : Operator} {r : R2} {r' : Q2} (ho : OpR X (binaryOp op) r) (s : Snd2 X.K r r') (ha : JE X W a qa) (hb : JE X W b qb) : JE X W (.BinOp a op b pos) (qOp r' qa qb) := PE.imp (pe_op ho ha hb) fun σ H Q h => snd2 s h
theorem je_cmp {op : CmpOp} {r : R2} {r' : Q2} (ho : OpR X (compareOp op) r) (s : Snd2 X.K r r') (ha : JE X W a qa) (hb : JE X W b qb) (hm : behindInMarks op b = false) : JE X W (.Compare a [op] [b] pos) (qOp r' qa qb) := PE.imp (pe_cmpR ho ha hb hm) fun σ H Q h => snd2 s h
theorem je_ixR {r : R2} {r' : Q2} (ho : IxR X r) (s : Snd2 X.K r r') (ha : JE X W a qa) (hb : JE X W b qb) (hs : PlainIx b := by exact fun _ _ => rfl) : JE X W (.Subscript a b pos) (qOp r' qa qb) := PE.imp (pe_ix ho ha hb hs) fun σ H Q h => snd2 s h
/-- two ints -/
def qI (C : Int → Int → Prop) (g : Int → Int → PV) : Q2 := fun x z Q => match x, z with
  | .int i, .int j => C i j ∧ Q (g i j)
  | _, _ => False
def qI0 (g : Int → Int → PV) : Q2 := fun x z Q => match x, z with
  | .int i, .int j => Q (g i j)
  | _, _ => False
theorem rep_int {K : PySem.W.Frag} {G : Hp} {i : Int} {v : V} (h : Rep K G (.int i) v) : v = .int i := by cases h; rfl
theorem rep_bl {K : PySem.W.Frag} {G : Hp} {i : Bool} {v : V} (h : Rep K G (.bl i) v) : v = .bl i := by cases h; rfl
theorem rep_str {K : PySem.W.Frag} {G : Hp} {i : Str} {v : V} (h : Rep K G (.str i) v) : v = .str i := by cases h; rfl
theorem rep_non {K : PySem.W.Frag} {G : Hp} {v : V} (h : Rep K G .non v) : v = .non := by cases h; rfl
theorem snd_I {K : PySem.W.Frag} {C : Int → Int → Prop} {g : Int → Int → V} {g' : Int → Int → PV} (hg : ∀ G i j, Rep K G (g' i j) (g i j)) : Snd2 K (rI C g) (qI C g') := by
  intro x z v w G H Q Qh hs rx rz q k
  unfold qI at q
  split at q
  · rename_i i j
    exact ⟨i, j, rep_int rx, rep_int rz, q.1, k _ _ G H (.refl hs) (hg G i j) q.2⟩
  · exact q.elim
theorem snd_I0 {K : PySem.W.Frag} {g : Int → Int → V} {g' : Int → Int → PV} (hg : ∀ G i j, Rep K G (g' i j) (g i j)) : Snd2 K (rI0 g) (qI0 g') := by
  intro x z v w G H Q Qh hs rx rz q k
  unfold qI0 at q
  split at q
  · rename_i i j
    exact ⟨i, j, rep_int rx, rep_int rz, k _ _ G H (.refl hs) (hg G i j) q⟩
  · exact q.elim
abbrev iAdd : Q2 := qI0 fun i j => .int (i + j)
abbrev iSub : Q2 := qI0 fun i j => .int (i - j)
abbrev iMul : Q2 := qI (fun i j => CMul i j ∨ CMulW i j) fun i j => .int (i * j)
/-- // by a divisor that is not 0 and below 2 ^ 9000 -/
def CDivG (_ j : Int) : Prop := j ≠ 0 ∧ j.natAbs.log2 < 9000
abbrev iDiv : Q2 := qI CDivG fun i j => .int (i.fdiv j)
abbrev iMod : Q2 := qI (fun _ j => 0 < j) fun i j => .int (i % j)
abbrev iLt : Q2 := qI0 fun i j => .bl (decide (i < j))
abbrev iLe : Q2 := qI0 fun i j => .bl (decide (i ≤ j))
abbrev iGt : Q2 := qI0 fun i j => .bl (decide (j < i))
abbrev iGe : Q2 := qI0 fun i j => .bl (decide (j ≤ i))
/-- a power whose bits are few -/
def CPowW (i j : Int) : Prop := 0 ≤ j ∧ (Builtin.Int.intBits i : Int) * j ≤ 2 ^ 27
abbrev iPow : Q2 := qI CPowW fun i j => .int (i ^ j.toNat)
theorem op_mulA : OpR X (binaryOp .Mult) (rI (fun i j => CMul i j ∨ CMulW i j) fun i j => .int (i * j)) := opI fun _ _ _ _ _ _ _ hc q => mul_int q (hc.elim CMul.ok CMulW.ok)
theorem op_divG : OpR X (binaryOp .FloorDiv) (rI CDivG fun i j => .int (i.fdiv j)) := opI fun _ _ _ _ _ _ _ hc q => floordiv_int hc.1 q (.inl (PyProof.noPylong_of_log2 hc.2))
theorem op_powW : OpR X (binaryOp .Pow) (rI CPowW fun i j => .int (i ^ j.toNat)) := opI fun _ _ _ _ _ _ _ hc q => pow_int hc.1 hc.2 q
theorem je_add (ha : JE X W a qa) (hb : JE X W b qb) : JE X W (.BinOp a .Add b pos) (qOp iAdd qa qb) := je_op op_add (snd_I0 fun _ _ _ => .int _) ha hb
theorem je_sub (ha : JE X W a qa) (hb : JE X W b qb) : JE X W (.BinOp a .Sub b pos) (qOp iSub qa qb) := je_op op_sub (snd_I0 fun _ _ _ => .int _) ha hb
theorem je_mul (ha : JE X W a qa) (hb : JE X W b qb) : JE X W (.BinOp a .Mult b pos) (qOp iMul qa qb) := je_op op_mulA (snd_I fun _ _ _ => .int _) ha hb
theorem je_div (ha : JE X W a qa) (hb : JE X W b qb) : JE X W (.BinOp a .FloorDiv b pos) (qOp iDiv qa qb) := je_op op_divG (snd_I fun _ _ _ => .int _) ha hb
theorem je_mod (ha : JE X W a qa) (hb : JE X W b qb) : JE X W (.BinOp a .Mod b pos) (qOp iMod qa qb) := je_op op_mod (snd_I fun _ _ _ => .int _) ha hb
theorem je_pow (ha : JE X W a qa) (hb : JE X W b qb) : JE X W (.BinOp a .Pow b pos) (qOp iPow qa qb) := je_op op_powW (snd_I fun _ _ _ => .int _) ha hb
theorem je_lt (ha : JE X W a qa) (hb : JE X W b qb) : JE X W (.Compare a [.Lt] [b] pos) (qOp iLt qa qb) := je_cmp op_lt (snd_I0 fun _ _ _ => .bl _) ha hb (nomark _)
theorem je_le (ha : JE X W a qa) (hb : JE X W b qb) : JE X W (.Compare a [.LtE] [b] pos) (qOp iLe qa qb) := je_cmp op_le (snd_I0 fun _ _ _ => .bl _) ha hb (nomark _)
theorem je_gt (ha : JE X W a qa) (hb : JE X W b qb) : JE X W (.Compare a [.Gt] [b] pos) (qOp iGt qa qb) := je_cmp op_gt (snd_I0 fun _ _ _ => .bl _) ha hb (nomark _)
theorem je_ge (ha : JE X W a qa) (hb : JE X W b qb) : JE X W (.Compare a [.GtE] [b] pos) (qOp iGe qa qb) := je_cmp op_ge (snd_I0 fun _ _ _ => .bl _) ha hb (nomark _)
/-- == of two ints, two texts, two truth values -/
def qEq (neg : Bool) : Q2 := fun x z Q => match x, z with
  | .int i, .int j => Q (.bl (neg ^^ (i == j)))
  | .str i, .str j => Q (.bl (neg ^^ (i == j)))
  | .bl i, .bl j => Q (.bl (neg ^^ (i == j)))
  | _, _ => False
theorem snd_eq {K : PySem.W.Frag} : Snd2 K rEq (qEq false) := by
  intro x z v w G H Q Qh hs rx rz q k
  unfold qEq at q
  split at q
  · cases rx; cases rz
    refine ⟨rfl, ?_⟩
    rw [dec_int]
    exact k _ _ G H (.refl hs) (.bl _) (by simpa using q)
  · cases rx; cases rz
    refine ⟨rfl, ?_⟩
    rw [dec_str]
    exact k _ _ G H (.refl hs) (.bl _) (by simpa using q)
  · cases rx; cases rz
    refine ⟨rfl, ?_⟩
    rw [dec_bl]
    exact k _ _ G H (.refl hs) (.bl _) (by simpa using q)
  · exact q.elim
theorem snd_ne {K : PySem.W.Frag} : Snd2 K rNe (qEq true) := by
  intro x z v w G H Q Qh hs rx rz q k
  unfold qEq at q
  split at q
  · cases rx; cases rz
    refine ⟨rfl, ?_⟩
    rw [dec_int]
    exact k _ _ G H (.refl hs) (.bl _) (by simpa using q)
  · cases rx; cases rz
    refine ⟨rfl, ?_⟩
    rw [dec_str]
    exact k _ _ G H (.refl hs) (.bl _) (by simpa using q)
  · cases rx; cases rz
    refine ⟨rfl, ?_⟩
    rw [dec_bl]
    exact k _ _ G H (.refl hs) (.bl _) (by simpa using q)
  · exact q.elim
theorem je_eq (ha : JE X W a qa) (hb : JE X W b qb) : JE X W (.Compare a [.Eq] [b] pos) (qOp (qEq false) qa qb) := je_cmp op_eq snd_eq ha hb (nomark _)
theorem je_ne (ha : JE X W a qa) (hb : JE X W b qb) : JE X W (.Compare a [.NotEq] [b] pos) (qOp (qEq true) qa qb) := je_cmp op_ne snd_ne ha hb (nomark _)
/-- x is None, x is not None -/
def qIsN (neg : Bool) : Q2 := fun x z Q => match x, z with
  | .non, .non => Q (.bl (!neg))
  | .lst _, .non => Q (.bl neg)
  | .tup _, .non => Q (.bl neg)
  | .obj _ _, .non => Q (.bl neg)
  | .int _, .non => Q (.bl neg)
  | .str _, .non => Q (.bl neg)
  | .bl _, .non => Q (.bl neg)
  | _, _ => False
theorem snd_isN {K : PySem.W.Frag} : Snd2 K (fun x y H Q => y = .non ∧ Q (.bl (decide (x = .non))) H) (qIsN false) := by
  intro x z v w G H Q Qh hs rx rz q k
  unfold qIsN at q
  split at q <;> first | exact q.elim | (cases rx; cases rz; exact ⟨rfl, k _ _ G H (.refl hs) (.bl _) q⟩)
theorem snd_notN {K : PySem.W.Frag} : Snd2 K (fun x y H Q => y = .non ∧ Q (.bl (!decide (x = .non))) H) (qIsN true) := by
  intro x z v w G H Q Qh hs rx rz q k
  unfold qIsN at q
  split at q <;> first | exact q.elim | (cases rx; cases rz; exact ⟨rfl, k _ _ G H (.refl hs) (.bl _) q⟩)
theorem je_isN (ha : JE X W a qa) (hb : JE X W b qb) : JE X W (.Compare a [.Is] [b] pos) (qOp (qIsN false) qa qb) := je_cmp op_isN snd_isN ha hb (nomark _)
theorem je_notN (ha : JE X W a qa) (hb : JE X W b qb) : JE X W (.Compare a [.IsNot] [b] pos) (qOp (qIsN true) qa qb) := je_cmp op_notN snd_notN ha hb (nomark _)
/-- xs[i] -/
def qIx : Q2 := fun x z Q => match x, z with
  | .lst xs, .int i => ∃ u, atI xs i = some u ∧ Q u
  | .tup xs, .int i => ∃ u, atI xs i = some u ∧ Q u
  | _, _ => False
theorem atI_rep {K : PySem.W.Frag} {G : Hp} {xs : List PV} {vs : List V} {i : Int} {u : PV} (r : Reps K G xs vs) (h : atI xs i = some u) : ∃ v, atI vs i = some v ∧ Rep K G u v := by
  unfold atI at h ⊢
  rw [← r.length]
  cases e : ixN xs.length i with
  | none => rw [e] at h; cases h
  | some j =>
    rw [e] at h
    exact r.get h
theorem snd_ix {K : PySem.W.Frag} : Snd2 K (rIx K) qIx := by
  intro x z v w G H Q Qh hs rx rz q k
  unfold qIx at q
  split at q
  · obtain ⟨u, hu, q⟩ := q
    cases rx with
    | lst h r =>
      cases rz
      obtain ⟨v', h1, h2⟩ := atI_rep r hu
      exact .inl ⟨_, _, _, v', rfl, rfl, hs.seq h, h1, k _ _ G H (.refl hs) h2 q⟩
  · obtain ⟨u, hu, q⟩ := q
    cases rx with
    | tup h r =>
      cases rz
      obtain ⟨v', h1, h2⟩ := atI_rep r hu
      exact .inr (.inl ⟨_, _, _, v', rfl, rfl, Same.sqT hs h, h1, k _ _ G H (.refl hs) h2 q⟩)
  · exact q.elim
theorem je_ix (ha : JE X W a qa) (hb : JE X W b qb) (hs : PlainIx b := by exact fun _ _ => rfl) : JE X W (.Subscript a b pos) (qOp qIx qa qb) := je_ixR ix_seq snd_ix ha hb hs
end

/-! ### one-place operators, tests -/
def qUn (r : PV → (PV → Prop) → Prop) (qa : QE) : QE := fun ρ y Q => qa ρ y fun x => r x Q
def qNeg : PV → (PV → Prop) → Prop := fun x Q => match x with
  | .int i => Q (.int (-i))
  | _ => False
def qB (qa : QE) : QT := fun ρ y Q => qa ρ y fun x => match x with
  | .bl b => Q b
  | _ => False
def qNotT (q : QT) : QT := fun ρ y Q => q ρ y fun b => Q (!b)
def qAndT (q r : QT) : QT := fun ρ y Q => q ρ y fun b => if b = true then r ρ y Q else Q false
def qOrT (q r : QT) : QT := fun ρ y Q => q ρ y fun b => if b = true then Q true else r ρ y Q
def qAndV (q r : QE) : QE := fun ρ y Q => q ρ y fun x => match x with
  | .bl b => if b = true then r ρ y Q else Q (.bl false)
  | _ => False
def qOrV (q r : QE) : QE := fun ρ y Q => q ρ y fun x => match x with
  | .bl b => if b = true then Q (.bl true) else r ρ y Q
  | _ => False
def qNotV (q : QE) : QE := fun ρ y Q => q ρ y fun x => match x with
  | .bl b => Q (.bl (!b))
  | _ => False
def qIf (c : QT) (q r : QE) : QE := fun ρ y Q => c ρ y fun b => if b = true then q ρ y Q else r ρ y Q
section
variable {X : Cx} {W : WX} {a b c : Expr} {rest : List Expr} {qa qb : QE} {q r : QT} {pos : Pos}
theorem je_neg (ha : JE X W a qa) : JE X W (.UnaryOp .USub a pos) (qUn qNeg qa) := by
  refine PE.imp (pe_un un_neg ha) fun σ H Qh ⟨Gb, Hb, ρ, G, y, Q, R, E, q, k⟩ => ?_
  refine ⟨Gb, Hb, ρ, G, y, _, R, E, q, fun x v G1 H1 s1 r1 q1 => ?_⟩
  unfold qNeg at q1
  split at q1
  · exact ⟨_, rep_int r1, k _ _ G1 H1 s1 (.int _) q1⟩
  · exact q1.elim
theorem jt_val (ha : JE X W a qa) (he : ∀ whole, isTrue a X.env whole = (do let v ← whole; standAt a.pos; holding [v] (truthy v)) := by intro _; rfl) : JT X W a (qB qa) := by
  refine PT.imp (pt_val ha he) fun σ H Qh ⟨Gb, Hb, ρ, G, y, Q, R, E, q, k⟩ => ?_
  refine ⟨Gb, Hb, ρ, G, y, _, R, E, q, fun x v G1 H1 s1 r1 q1 => ?_⟩
  split at q1
  · exact ⟨_, rep_bl r1, k _ G1 H1 s1 q1⟩
  · exact q1.elim
theorem jt_cmp {op : CmpOp} {r : R2} {r' : Q2} (ho : OpR X (compareOp op) r) (s : Snd2 X.K r r') (ha : JE X W a qa) (hb : JE X W b qb) (hm : behindInMarks op b = false) : JT X W (.Compare a [op] [b] pos) (qB (qOp r' qa qb)) := by
  refine PT.imp (pt_cmpR ho ha hb hm) fun σ H Qh ⟨Gb, Hb, ρ, G, y, Q, R, E, q, k⟩ => ?_
  refine snd2 (K := X.K) (W := W) s ⟨Gb, Hb, ρ, G, y, _, R, E, q, fun x v G1 H1 s1 r1 q1 => ?_⟩
  split at q1
  · exact ⟨_, rep_bl r1, k _ G1 H1 s1 q1⟩
  · exact q1.elim
theorem jt_lt (ha : JE X W a qa) (hb : JE X W b qb) : JT X W (.Compare a [.Lt] [b] pos) (qB (qOp iLt qa qb)) := jt_cmp op_lt (snd_I0 fun _ _ _ => .bl _) ha hb (nomark _)
theorem jt_le (ha : JE X W a qa) (hb : JE X W b qb) : JT X W (.Compare a [.LtE] [b] pos) (qB (qOp iLe qa qb)) := jt_cmp op_le (snd_I0 fun _ _ _ => .bl _) ha hb (nomark _)
theorem jt_gt (ha : JE X W a qa) (hb : JE X W b qb) : JT X W (.Compare a [.Gt] [b] pos) (qB (qOp iGt qa qb)) := jt_cmp op_gt (snd_I0 fun _ _ _ => .bl _) ha hb (nomark _)
theorem jt_ge (ha : JE X W a qa) (hb : JE X W b qb) : JT X W (.Compare a [.GtE] [b] pos) (qB (qOp iGe qa qb)) := jt_cmp op_ge (snd_I0 fun _ _ _ => .bl _) ha hb (nomark _)
theorem jt_eq (ha : JE X W a qa) (hb : JE X W b qb) : JT X W (.Compare a [.Eq] [b] pos) (qB (qOp (qEq false) qa qb)) := jt_cmp op_eq snd_eq ha hb (nomark _)
theorem jt_ne (ha : JE X W a qa) (hb : JE X W b qb) : JT X W (.Compare a [.NotEq] [b] pos) (qB (qOp (qEq true) qa qb)) := jt_cmp op_ne snd_ne ha hb (nomark _)
theorem jt_isN (ha : JE X W a qa) (hb : JE X W b qb) : JT X W (.Compare a [.Is] [b] pos) (qB (qOp (qIsN false) qa qb)) := jt_cmp op_isN snd_isN ha hb (nomark _)
theorem jt_notN (ha : JE X W a qa) (hb : JE X W b qb) : JT X W (.Compare a [.IsNot] [b] pos) (qB (qOp (qIsN true) qa qb)) := jt_cmp op_notN snd_notN ha hb (nomark _)
theorem jt_not (h : JT X W a q) : JT X W (.UnaryOp .Not a pos) (qNotT q) := by
  refine PT.imp (pt_not h) fun σ H Qh ⟨Gb, Hb, ρ, G, y, Q, R, E, q, k⟩ => ?_
  exact ⟨Gb, Hb, ρ, G, y, _, R, E, q, fun x G1 H1 s1 q1 => k _ G1 H1 s1 q1⟩
theorem jw_and (h1 : JT X W a q) (h2 : JW X W (.BoolOp .And (b :: rest) pos) r) : JW X W (.BoolOp .And (a :: b :: rest) pos) (qAndT q r) := by
  refine PW.imp (pw_and h1 h2) fun σ H Qh ⟨Gb, Hb, ρ, G, y, Q, R, E, q, k⟩ => ?_
  refine ⟨Gb, Hb, ρ, G, y, _, R, E, q, fun x G1 H1 s1 q1 => ?_⟩
  cases x with
  | true =>
    rw [if_pos rfl] at q1 ⊢
    exact ⟨Gb, Hb, ρ, G1, y, Q, R.mono s1, E.mono s1, q1, fun x G2 H2 s2 q2 => k x G2 H2 (s1.trans s2) q2⟩
  | false =>
    rw [if_neg Bool.false_ne_true] at q1 ⊢
    exact k _ G1 H1 s1 q1
theorem jw_or (h1 : JT X W a q) (h2 : JW X W (.BoolOp .Or (b :: rest) pos) r) : JW X W (.BoolOp .Or (a :: b :: rest) pos) (qOrT q r) := by
  refine PW.imp (pw_or h1 h2) fun σ H Qh ⟨Gb, Hb, ρ, G, y, Q, R, E, q, k⟩ => ?_
  refine ⟨Gb, Hb, ρ, G, y, _, R, E, q, fun x G1 H1 s1 q1 => ?_⟩
  cases x with
  | true =>
    rw [if_pos rfl] at q1 ⊢
    exact k _ G1 H1 s1 q1
  | false =>
    rw [if_neg Bool.false_ne_true] at q1 ⊢
    exact ⟨Gb, Hb, ρ, G1, y, Q, R.mono s1, E.mono s1, q1, fun x G2 H2 s2 q2 => k x G2 H2 (s1.trans s2) q2⟩
theorem jw_and1 (h : JT X W a q) : JW X W (.BoolOp .And [a] pos) q := pw_and1 h
theorem jw_or1 (h : JT X W a q) : JW X W (.BoolOp .Or [a] pos) q := pw_or1 h
theorem jt_w (h : JW X W a q) : JT X W a q := h.pt
theorem je_one {op : BoolOp} (h : JE X W a qa) : JE X W (.BoolOp op [a] pos) qa := pe_one h
theorem je_and (h1 : JE X W a qa) (h2 : JE X W (.BoolOp .And (b :: rest) pos) qb) : JE X W (.BoolOp .And (a :: b :: rest) pos) (qAndV qa qb) := by
  refine PE.imp (pe_and h1 h2) fun σ H Qh ⟨Gb, Hb, ρ, G, y, Q, R, E, q, k⟩ => ?_
  refine ⟨Gb, Hb, ρ, G, y, _, R, E, q, fun x v G1 H1 s1 r1 q1 => ?_⟩
  split at q1
  · rename_i c
    refine ⟨c, rep_bl r1, ?_⟩
    cases c with
    | true =>
      rw [if_pos rfl] at q1 ⊢
      exact ⟨Gb, Hb, ρ, G1, y, Q, R.mono s1, E.mono s1, q1, fun x v G2 H2 s2 r2 q2 => k x v G2 H2 (s1.trans s2) r2 q2⟩
    | false =>
      rw [if_neg Bool.false_ne_true] at q1 ⊢
      exact k _ _ G1 H1 s1 (.bl _) q1
  · exact q1.elim
theorem je_or (h1 : JE X W a qa) (h2 : JE X W (.BoolOp .Or (b :: rest) pos) qb) : JE X W (.BoolOp .Or (a :: b :: rest) pos) (qOrV qa qb) := by
  refine PE.imp (pe_or h1 h2) fun σ H Qh ⟨Gb, Hb, ρ, G, y, Q, R, E, q, k⟩ => ?_
  refine ⟨Gb, Hb, ρ, G, y, _, R, E, q, fun x v G1 H1 s1 r1 q1 => ?_⟩
  split at q1
  · rename_i c
    refine ⟨c, rep_bl r1, ?_⟩
    cases c with
    | true =>
      rw [if_pos rfl] at q1 ⊢
      exact k _ _ G1 H1 s1 (.bl _) q1
    | false =>
      rw [if_neg Bool.false_ne_true] at q1 ⊢
      exact ⟨Gb, Hb, ρ, G1, y, Q, R.mono s1, E.mono s1, q1, fun x v G2 H2 s2 r2 q2 => k x v G2 H2 (s1.trans s2) r2 q2⟩
  · exact q1.elim
theorem je_not (h : JE X W a qa) : JE X W (.UnaryOp .Not a pos) (qNotV qa) := by
  refine PE.imp (pe_not h) fun σ H Qh ⟨Gb, Hb, ρ, G, y, Q, R, E, q, k⟩ => ?_
  refine ⟨Gb, Hb, ρ, G, y, _, R, E, q, fun x v G1 H1 s1 r1 q1 => ?_⟩
  split at q1
  · exact ⟨_, rep_bl r1, k _ _ G1 H1 s1 (.bl _) q1⟩
  · exact q1.elim
theorem je_if (hc : JT X W c q) (h1 : JE X W a qa) (h2 : JE X W b qb) : JE X W (.IfExp c a b pos) (qIf q qa qb) := by
  refine PE.imp (pe_ifExp hc h1 h2) fun σ H Qh ⟨Gb, Hb, ρ, G, y, Q, R, E, q, k⟩ => ?_
  refine ⟨Gb, Hb, ρ, G, y, _, R, E, q, fun x G1 H1 s1 q1 => ?_⟩
  cases x with
  | true =>
    rw [if_pos rfl] at q1 ⊢
    exact ⟨Gb, Hb, ρ, G1, y, Q, R.mono s1, E.mono s1, q1, fun x v G2 H2 s2 r2 q2 => k x v G2 H2 (s1.trans s2) r2 q2⟩
  | false =>
    rw [if_neg Bool.false_ne_true] at q1 ⊢
    exact ⟨Gb, Hb, ρ, G1, y, Q, R.mono s1, E.mono s1, q1, fun x v G2 H2 s2 r2 q2 => k x v G2 H2 (s1.trans s2) r2 q2⟩
end

/-! ### arguments, tuples, lists -/
def qNil : QA := fun _ _ Q => Q []
def qCons (q : QE) (r : QA) : QA := fun ρ y Q => q ρ y fun x => r ρ y fun xs => Q (x :: xs)
def qTup (q : QA) : QE := fun ρ y Q => q ρ y fun xs => xs.length ≤ 1000 ∧ Q (.tup xs)
def qLst (q : QA) : QE := fun ρ y Q => q ρ y fun xs => xs.length ≤ 1000 ∧ Q (.lst xs)
section
variable {X : Cx} {W : WX} {e : Expr} {es : List Expr} {q : QE} {r : QA} {pos : Pos}
theorem ja_nil : JA X W [] qNil := PA.imp pa_nil fun σ H Qh ⟨Gb, Hb, ρ, G, y, Q, R, E, q, k⟩ => k [] [] G H (.refl R.gh) .nil q
theorem ja_cons (h : JE X W e q) (hr : JA X W es r) (hs : starEach (e :: es) X.env = (false, eval e X.env) :: starEach es X.env := by rfl) : JA X W (e :: es) (qCons q r) := by
  refine PA.imp (pa_cons h hr hs) fun σ H Qh ⟨Gb, Hb, ρ, G, y, Q, R, E, q, k⟩ => ?_
  refine ⟨Gb, Hb, ρ, G, y, _, R, E, q, fun x v G1 H1 s1 r1 q1 => ?_⟩
  exact ⟨Gb, Hb, ρ, G1, y, _, R.mono s1, E.mono s1, q1, fun xs vs G2 H2 s2 r2 q2 => k _ _ G2 H2 (s1.trans s2) (.cons (r1.mono s2.gg) r2) q2⟩
theorem le_line {n : Nat} (h : n ≤ 1000) : n ≤ sizeLine := Nat.le_trans h (by decide)
theorem je_tup {x1} (h : JA X W es r) : JE X W (.Tuple es x1 pos) (qTup r) := by
  refine PE.imp (pe_tup h) fun σ H Qh ⟨Gb, Hb, ρ, G, y, Q, R, E, q, k⟩ => ?_
  refine ⟨Gb, Hb, ρ, G, y, _, R, E, q, fun xs vs G1 H1 s1 r1 q1 => ⟨?_, fun p hp => ?_⟩⟩
  · rw [← r1.length]; exact le_line q1.1
  · have st : Step G1 H1 (upd G1 p (.tup vs)) (upd H1 p (.tup vs)) := Step.alloc s1.gh hp
    exact k _ _ _ _ (s1.trans st) (.tup (SqT.of upd_same) (r1.mono st.gg)) q1.2
theorem je_lst (h : JA X W es r) : JE X W (.List es pos) (qLst r) := by
  refine PE.imp (pe_lst h) fun σ H Qh ⟨Gb, Hb, ρ, G, y, Q, R, E, q, k⟩ => ?_
  refine ⟨Gb, Hb, ρ, G, y, _, R, E, q, fun xs vs G1 H1 s1 r1 q1 => ⟨?_, fun p hp => ?_⟩⟩
  · rw [← r1.length]; exact le_line q1.1
  · have st : Step G1 H1 (upd G1 p (.lst vs)) (upd H1 p (.lst vs)) := Step.alloc s1.gh hp
    exact k _ _ _ _ (s1.trans st) (.lst (SqL.of upd_same) (r1.mono st.gg)) q1.2
end

/-! ### slices -/
def qPart (q : QE) : PSt → Y → (Option Int → Prop) → Prop := fun ρ y Q => q ρ y fun x => match x with
  | .int i => Q (some i)
  | _ => False
def qNoPart : PSt → Y → (Option Int → Prop) → Prop := fun _ _ Q => Q none
abbrev QO := PSt → Y → (Option Int → Prop) → Prop
def tOJ (K : PySem.W.Frag) (W : WX) (q : QO) : TO := fun σ H Qh => ∃ (Gb Hb : Hp) (ρ : PSt) (G : Hp) (y : Y) (Q : Option Int → Prop), RelS K Gb Hb ρ σ G H ∧ ExOk K W σ G H y ∧ q ρ y Q ∧ ∀ o G' H', Step G H G' H' → Q o → Qh o H'
abbrev JO (X : Cx) (W : WX) (e : Option Expr) (q : QO) : Prop := PO X e (tOJ X.K W q)
def cutP (xs : List PV) (lo hi : Option Int) : List PV := (xs.drop (HT.sIx xs.length 0 lo)).take (HT.sIx xs.length xs.length hi - HT.sIx xs.length 0 lo)
def qSl (q : QE) (ql qh : QO) : QE := fun ρ y Q => q ρ y fun x => ql ρ y fun lo => qh ρ y fun hi => match x with
  | .lst xs => Q (.lst (cutP xs lo hi))
  | _ => False
theorem PO.imp {X : Cx} {e : Option Expr} {t t' : TO} (h : PO X e t) (i : ∀ σ H Q, t' σ H Q → t σ H Q) : PO X e t' := by
  obtain ⟨r⟩ := h
  exact ⟨fun pins s σ H Q I w => r pins s σ H Q I (i σ H Q w)⟩
section
variable {X : Cx} {W : WX} {e lo hi : Expr} {q : QE} {ql qh : QO} {pos p2 : Pos}
theorem jo_none : JO X W none qNoPart := PO.imp po_none fun σ H Qh ⟨Gb, Hb, ρ, G, y, Q, R, E, q, k⟩ => k none G H (.refl R.gh) q
theorem jo_some (h : JE X W e q) : JO X W (some e) (qPart q) := by
  refine PO.imp (po_some h) fun σ H Qh ⟨Gb, Hb, ρ, G, y, Q, R, E, q, k⟩ => ?_
  refine ⟨Gb, Hb, ρ, G, y, _, R, E, q, fun x v G1 H1 s1 r1 q1 => ?_⟩
  split at q1
  · exact ⟨_, rep_int r1, k _ G1 H1 s1 q1⟩
  · exact q1.elim
theorem reps_cut {K : PySem.W.Frag} {G : Hp} {xs : List PV} {vs : List V} (r : Reps K G xs vs) (lo hi : Option Int) : Reps K G (cutP xs lo hi) (cutV vs lo hi) := by
  unfold cutP cutV
  rw [r.length]
  exact (r.drop _).take _
theorem je_sl {lo hi : Option Expr} (h : JE X W e q) (hl : JO X W lo ql) (hh : JO X W hi qh) : JE X W (.Subscript e (.Slice lo hi none p2) pos) (qSl q ql qh) := by
  refine PE.imp (pe_slice sl_list h hl hh) fun σ H Qh ⟨Gb, Hb, ρ, G, y, Q, R, E, q, k⟩ => ?_
  refine ⟨Gb, Hb, ρ, G, y, _, R, E, q, fun x v G1 H1 s1 r1 q1 => ?_⟩
  refine ⟨Gb, Hb, ρ, G1, y, _, R.mono s1, E.mono s1, q1, fun lo G2 H2 s2 q2 => ?_⟩
  refine ⟨Gb, Hb, ρ, G2, y, _, (R.mono s1).mono s2, (E.mono s1).mono s2, q2, fun hi G3 H3 s3 q3 => ?_⟩
  split at q3
  · cases r1 with
    | @lst a vs xs hq hr =>
      refine ⟨_, _, rfl, s3.gh.seq (s3.gg.seq (s2.gg.seq hq)), fun p hp => ?_⟩
      have st : Step G3 H3 (upd G3 p (.lst (cutV vs lo hi))) (upd H3 p (.lst (cutV vs lo hi))) := Step.alloc s3.gh hp
      exact k _ _ _ _ (((s1.trans s2).trans s3).trans st) (.lst (SqL.of upd_same) (((reps_cut hr lo hi).mono (s2.gg.trans s3.gg)).mono st.gg)) q3
  · exact q3.elim
end
end QL

set_option maxHeartbeats 2000000
namespace QL
open PySem PySem.Spec PyProof.Rows L2

/-! ### statements -/
/-- what is wanted behind a statement -/
structure QD where
  nx : PSt → Prop
  rt : PV → Prop
  bk : PSt → Prop := fun _ => False
  ct : PSt → Prop := fun _ => False
  ex : PSt → PX → Prop
abbrev QS := QD → PSt → Prop
structure Mt (K : PySem.W.Frag) (W : WX) (Gb Hb : Hp) (D : QD) (Dh : Ends) : Prop where
  nx : ∀ ρ σ G H, RelS K Gb Hb ρ σ G H → D.nx ρ → Dh.nx σ H
  rt : ∀ x v G H, Step Gb Hb G H → Rep K G x v → D.rt x → Dh.rt v H
  bk : ∀ ρ σ G H, RelS K Gb Hb ρ σ G H → D.bk ρ → Dh.bk σ H
  ct : ∀ ρ σ G H, RelS K Gb Hb ρ σ G H → D.ct ρ → Dh.ct σ H
  ex : ∀ ρ σ G H p d, RelS K Gb Hb ρ σ G H → RepX K G H p d → D.ex ρ p → W (.ref p.C) (some d) σ H
def tSJ (K : PySem.W.Frag) (W : WX) (q : QS) : TS := fun Dh σ H => ∃ (Gb Hb : Hp) (ρ : PSt) (G : Hp) (D : QD), RelS K Gb Hb ρ σ G H ∧ Mt K W Gb Hb D Dh ∧ q D ρ
abbrev JS (X : Cx) (W : WX) (e : Stmt) (q : QS) : Prop := PS X e (tSJ X.K W q)
abbrev JSs (X : Cx) (W : WX) (e : List Stmt) (q : QS) : Prop := PSs X e (tSJ X.K W q)
section
variable {K : PySem.W.Frag} {W : WX} {Gb Hb G H : Hp} {D : QD} {Dh : Ends} {ρ : PSt} {σ : L2.St}
theorem Mt.exok (M : Mt K W Gb Hb D Dh) (R : RelS K Gb Hb ρ σ G H) : ExOk K W σ G H (D.ex ρ) := fun p d G' H' s r q => M.ex ρ σ G' H' p d (R.mono s) r q
theorem Mt.rebase (M : Mt K W Gb Hb D Dh) (s : Step Gb Hb G H) : Mt K W G (join G Hb) D Dh :=
  ⟨fun ρ σ G' H' R q => M.nx ρ σ G' H' (R.unbase s) q, fun x v G' H' t r q => M.rt x v G' H' (s.unbase t) r q, fun ρ σ G' H' R q => M.bk ρ σ G' H' (R.unbase s) q, fun ρ σ G' H' R q => M.ct ρ σ G' H' (R.unbase s) q,
   fun ρ σ G' H' p d R r q => M.ex ρ σ G' H' p d (R.unbase s) r q⟩
end

def qNext : QS := fun D ρ => D.nx ρ
def qSeq (q r : QS) : QS := fun D ρ => q { D with nx := fun ρ' => r D ρ' } ρ
/-- q, then r, with what holds between them -/
def qCut (q r : QS) : QS := fun D ρ => ∃ I : PSt → Prop, q { D with nx := I } ρ ∧ ∀ ρ', I ρ' → r D ρ'
def qBreak : QS := fun D ρ => D.bk ρ
def qCont : QS := fun D ρ => D.ct ρ
def qDrop (q : QE) : QS := fun D ρ => q ρ (D.ex ρ) fun _ => D.nx ρ
def qRet (q : QE) : QS := fun D ρ => q ρ (D.ex ρ) D.rt
def qRetN : QS := fun D _ => D.rt .non
def qIfS (c : QT) (q r : QS) : QS := fun D ρ => c ρ (D.ex ρ) fun b => if b = true then q D ρ else r D ρ
def qNever : QS := fun _ _ => False
def qSet (i : Nat) (q : QE) : QS := fun D ρ => q ρ (D.ex ρ) fun x => D.nx (ρ.set i (some (.pv x)))
/-- x = [..], a list that the def will change -/
def qOwn (i : Nat) (q : QA) : QS := fun D ρ => q ρ (D.ex ρ) fun xs => xs.length ≤ 1000 ∧ D.nx (ρ.set i (some (.own xs)))
/-- from here on the list at slot i is a value -/
def qFreeze (i : Nat) (q : QS) : QS := fun D ρ => match ρ[i]? with
  | some (some (.own xs)) => q D (ρ.set i (some (.pv (.lst xs))))
  | _ => False
/-- x.append(e), x one's own list -/
def qApp (i : Nat) (q : QE) : QS := fun D ρ => match ρ[i]? with
  | some (some (.own xs)) => xs.length < 10000 ∧ q ρ (D.ex ρ) fun x => D.nx (ρ.set i (some (.own (xs ++ [x]))))
  | _ => False
/-- x[k] = e, x one's own list -/
def qSetIx (i : Nat) (qk q : QE) : QS := fun D ρ => match ρ[i]? with
  | some (some (.own xs)) => q ρ (D.ex ρ) fun x => qk ρ (D.ex ρ) fun k => match k with
    | .int k => ∃ j, ixN xs.length k = some j ∧ D.nx (ρ.set i (some (.own (xs.set j x))))
    | _ => False
  | _ => False
/-- a, b = e, f -/
def qPar (i j : Nat) (q : QA) : QS := fun D ρ => q ρ (D.ex ρ) fun xs => match xs with
  | [x, z] => D.nx ((ρ.set i (some (.pv x))).set j (some (.pv z)))
  | _ => False
def setAll : PSt → List Nat → List PV → PSt
  | ρ, i :: is, x :: xs => setAll (ρ.set i (some (.pv x))) is xs
  | ρ, _, _ => ρ
/-- (a, b, ..) = a tuple or a list -/
def qUnp (is : List Nat) (q : QE) : QS := fun D ρ => q ρ (D.ex ρ) fun x => match x with
  | .tup xs => xs.length = is.length ∧ D.nx (setAll ρ is xs)
  | _ => False
def qUnpL (is : List Nat) (q : QE) : QS := fun D ρ => q ρ (D.ex ρ) fun x => match x with
  | .lst xs => xs.length = is.length ∧ D.nx (setAll ρ is xs)
  | _ => False
/-- self.f = e, self at slot i -/
def qFldS (i : Nat) (f : Str) (C : Addr) (q : QE) : QS := fun D ρ => match ρ[i]? with
  | some (some (.ins a C' fs)) => C' = C ∧ fs.length < 900 ∧ q ρ (D.ex ρ) fun x => D.nx (ρ.set i (some (.ins a C (putP f x fs))))
  | _ => False
/-- a loop over the items -/
def qLoop (i : Nat) (q : QS) (D : QD) : List PV → PSt → Prop
  | [], ρ => D.nx ρ
  | x :: xs, ρ => q { D with nx := fun ρ' => qLoop i q D xs ρ', ct := fun ρ' => qLoop i q D xs ρ', bk := D.nx } (ρ.set i (some (.pv x)))
def qForL (i : Nat) (qi : QE) (q : QS) : QS := fun D ρ => qi ρ (D.ex ρ) fun x => match x with
  | .lst xs => qLoop i q D xs ρ
  | _ => False
def qForT (i : Nat) (qi : QE) (q : QS) : QS := fun D ρ => qi ρ (D.ex ρ) fun x => match x with
  | .tup xs => qLoop i q D xs ρ
  | _ => False
/-- over one's own list, which the body leaves as it is -/
def rangeP (lo : Int) (n : Nat) : List PV := (List.range n).map fun (k : Nat) => PV.int (lo + (k : Int))
def qForR1 (i : Nat) (qa : QA) (q : QS) : QS := fun D ρ => qa ρ (D.ex ρ) fun xs => match xs with
  | [.int n] => -(2 ^ 62) ≤ n ∧ n < 2 ^ 62 ∧ qLoop i q D (rangeP 0 n.toNat) ρ
  | _ => False
def qForR2 (i : Nat) (qa : QA) (q : QS) : QS := fun D ρ => qa ρ (D.ex ρ) fun xs => match xs with
  | [.int lo, .int hi] => (-(2 ^ 62) ≤ lo ∧ lo < 2 ^ 62 ∧ -(2 ^ 62) ≤ hi ∧ hi < 2 ^ 62) ∧ qLoop i q D (rangeP lo (hi - lo).toNat) ρ
  | _ => False
def qWhile (c : QT) (q : QS) : QS := fun D ρ => ∃ I : Nat → PSt → Prop, (∃ m, I m ρ) ∧ ∀ m ρ, I m ρ → c ρ (D.ex ρ) fun b => if b = true then q { D with nx := fun ρ' => ∃ m', m' < m ∧ I m' ρ', ct := fun ρ' => ∃ m', m' < m ∧ I m' ρ', bk := D.nx } ρ else D.nx ρ

section
variable {X : Cx} {W : WX} {st : Stmt} {rest a b : List Stmt} {e : Expr} {q r : QS} {qe qk : QE} {qa : QA} {c : QT} {ce : Expr} {pos : Pos}
theorem jss_nil : JSs X W [] qNext := PSs.imp pss_nil fun Dh σ H ⟨Gb, Hb, ρ, G, D, R, M, q⟩ => M.nx ρ σ G H R q
theorem jss_one (h : JS X W st q) : JSs X W [st] q := pss_one h
theorem mt_nx {K : PySem.W.Frag} {Gb Hb : Hp} {D : QD} {Dh : Ends} (M : Mt K W Gb Hb D Dh) {I : PSt → Prop} {J : L2.St → Hp → Prop} (h : ∀ ρ σ G H, RelS K Gb Hb ρ σ G H → I ρ → J σ H) : Mt K W Gb Hb { D with nx := I } { Dh with nx := J } := ⟨h, M.rt, M.bk, M.ct, M.ex⟩
theorem jss_cons (h1 : JS X W st q) (h2 : JSs X W rest r) : JSs X W (st :: rest) (qSeq q r) := by
  refine PSs.imp (pss_cons h1 h2) fun Dh σ H ⟨Gb, Hb, ρ, G, D, R, M, q⟩ => ?_
  exact ⟨Gb, Hb, ρ, G, { D with nx := fun ρ' => r D ρ' }, R, mt_nx M fun ρ' σ' G' H' R' q' => ⟨Gb, Hb, ρ', G', D, R', M, q'⟩, q⟩
theorem jss_cut (h1 : JS X W st q) (h2 : JSs X W rest r) : JSs X W (st :: rest) (qCut q r) := by
  refine PSs.imp (pss_cons h1 h2) fun Dh σ H ⟨Gb, Hb, ρ, G, D, R, M, I, q, k⟩ => ?_
  exact ⟨Gb, Hb, ρ, G, { D with nx := I }, R, mt_nx M fun ρ' σ' G' H' R' q' => ⟨Gb, Hb, ρ', G', D, R', M, k ρ' q'⟩, q⟩
theorem jss_freeze (i : Nat) (h : JSs X W rest r) : JSs X W rest (qFreeze i r) := by
  refine PSs.imp h fun Dh σ H ⟨Gb, Hb, ρ, G, D, R, M, q⟩ => ?_
  unfold qFreeze at q
  split at q
  · rename_i xs ex
    obtain ⟨G', R', _⟩ := R.freeze ex
    exact ⟨Gb, Hb, _, G', D, R', M, q⟩
  · exact q.elim
theorem js_pass : JS X W (.Pass pos) qNext := PS.imp ps_pass fun Dh σ H ⟨Gb, Hb, ρ, G, D, R, M, q⟩ => M.nx ρ σ G H R q
theorem js_brk : JS X W (.Break pos) qBreak := PS.imp ps_break fun Dh σ H ⟨Gb, Hb, ρ, G, D, R, M, q⟩ => M.bk ρ σ G H R q
theorem js_cont : JS X W (.Continue pos) qCont := PS.imp ps_continue fun Dh σ H ⟨Gb, Hb, ρ, G, D, R, M, q⟩ => M.ct ρ σ G H R q
theorem js_never : JS X W st qNever := PS.imp ps_never fun Dh σ H ⟨Gb, Hb, ρ, G, D, R, M, q⟩ => q
theorem jss_never : JSs X W rest qNever := PSs.imp pss_never fun Dh σ H ⟨Gb, Hb, ρ, G, D, R, M, q⟩ => q
theorem js_expr (h : JE X W e qe) (hs : swapsWith e none pos.line X.env = pure false := by rfl) : JS X W (.Expr e pos) (qDrop qe) := PS.imp (ps_expr h hs) fun Dh σ H ⟨Gb, Hb, ρ, G, D, R, M, q⟩ =>
  ⟨Gb, Hb, ρ, G, D.ex ρ, _, R, M.exok R, q, fun x v G' H' s r q' => M.nx ρ σ G' H' (R.mono s) q'⟩
theorem js_ret (h : JE X W e qe) : JS X W (.Return (some e) pos) (qRet qe) := PS.imp (ps_ret h) fun Dh σ H ⟨Gb, Hb, ρ, G, D, R, M, q⟩ =>
  ⟨Gb, Hb, ρ, G, D.ex ρ, _, R, M.exok R, q, fun x v G' H' s r q' => M.rt x v G' H' (R.step.trans s) r q'⟩
theorem js_retN : JS X W (.Return none pos) qRetN := PS.imp ps_retN fun Dh σ H ⟨Gb, Hb, ρ, G, D, R, M, q⟩ => M.rt .non .non G H R.step .non q
theorem js_if (hc : JT X W ce c) (h1 : JSs X W a q) (h2 : JSs X W b r) : JS X W (.If ce a b pos) (qIfS c q r) := by
  refine PS.imp (ps_if hc h1 h2) fun Dh σ H ⟨Gb, Hb, ρ, G, D, R, M, q⟩ => ?_
  refine ⟨Gb, Hb, ρ, G, D.ex ρ, _, R, M.exok R, q, fun b G' H' s q' => ?_⟩
  cases b with
  | true =>
    rw [if_pos rfl] at q' ⊢
    exact ⟨Gb, Hb, ρ, G', D, R.mono s, M, q'⟩
  | false =>
    rw [if_neg Bool.false_ne_true] at q' ⊢
    exact ⟨Gb, Hb, ρ, G', D, R.mono s, M, q'⟩
theorem js_set (i : Nat) {x : Str} {pos' : Pos} (hN : X.N.Nodup) (h : JE X W e qe) (hi : X.N[i]? = some x := by rfl) (hx : Loc X.env.scope x := by first | exact Or.inl rfl | exact Or.inr rfl) (hs : swapsWith e (some (.Name x pos')) pos.line X.env = pure false := by rfl)
    (hf : X.fn x = true ∨ X.env.scope.names.lookup x = some .local := by first | exact .inl rfl | exact .inr rfl) : JS X W (.Assign [.Name x pos'] e pos) (qSet i qe) := PS.imp (ps_set hN hi hx h hs hf) fun Dh σ H ⟨Gb, Hb, ρ, G, D, R, M, q⟩ =>
  ⟨Gb, Hb, ρ, G, D.ex ρ, _, R, M.exok R, q, fun x v G' H' s r q' => M.nx _ _ G' H' ((R.mono s).set i r) q'⟩
theorem js_own (i : Nat) {x : Str} {es : List Expr} {pos' lpos : Pos} (hN : X.N.Nodup) (h : JA X W es qa) (hi : X.N[i]? = some x := by rfl) (hx : Loc X.env.scope x := by first | exact Or.inl rfl | exact Or.inr rfl) (hs : swapsWith (.List es lpos) (some (.Name x pos')) pos.line X.env = pure false := by rfl)
    (hf : X.fn x = true ∨ X.env.scope.names.lookup x = some .local := by first | exact .inl rfl | exact .inr rfl) : JS X W (.Assign [.Name x pos'] (.List es lpos) pos) (qOwn i qa) := by
  refine PS.imp (ps_set hN hi hx (pe_lst h) hs hf) fun Dh σ H ⟨Gb, Hb, ρ, G, D, R, M, q⟩ => ?_
  refine ⟨Gb, Hb, ρ, G, D.ex ρ, _, R, M.exok R, q, fun xs vs G1 H1 s1 r1 q1 => ⟨?_, fun p hp => ?_⟩⟩
  · rw [← r1.length]; exact le_line q1.1
  · have R1 := R.mono s1
    have R2 := R1.mono (Step.hid (o := .lst vs) R1.gh hp)
    refine M.nx _ _ G1 _ (R2.setOwn i upd_same r1 (R1.gh.free hp) (R1.step.hh.free hp) fun j ys ej sj => ?_) q1.2
    obtain ⟨a, us, e1, e2, _⟩ := R1.own j ys ej
    rw [sj] at e1
    cases e1
    rw [hp] at e2
    cases e2
theorem js_app (i : Nat) {x : Str} {apos pos' pos2 : Pos} (h : JE X W e qe) (hv : PE X (.Name x pos') (tVar i) := by exact pv _)
    (hpe : PE X (.Call (.Attribute (.Name x pos') "append" apos) [e] [] pos2) (tBM X.K "list" rAppend (tVar i) (tCons (tJ X.K W qe) tNil))) (hs : swapsWith (.Call (.Attribute (.Name x pos') "append" apos) [e] [] pos2) none pos.line X.env = pure false := by rfl) :
    JS X W (.Expr (.Call (.Attribute (.Name x pos') "append" apos) [e] [] pos2) pos) (qApp i qe) := by
  refine PS.imp (ps_expr hpe hs) fun Dh σ H ⟨Gb, Hb, ρ, G, D, R, M, q⟩ => ?_
  unfold qApp at q
  split at q
  · rename_i xs ex
    obtain ⟨a, vs, e1, e2, e3, e4, e5⟩ := R.own i xs ex
    refine ⟨.ref a, e1, .inl ⟨rfl, _, SqL.of e2⟩, Gb, Hb, ρ, G, D.ex ρ, _, R, M.exok R, q.2, fun x v G1 H1 s1 r1 q1 => ?_⟩
    have e2' := s1.hh _ _ e2
    refine ⟨a, vs, v, rfl, rfl, e2', ?_, ?_⟩
    · rw [← e3.length]
      exact Nat.lt_of_lt_of_le q.1 (by decide)
    · exact M.nx _ _ G1 _ ((R.mono s1).turn ex e1 e2' ((e3.mono s1.gg).append (.cons r1 .nil))) q1
  · exact q.elim
theorem ixN_len {xs : List PV} {vs : List V} {K : PySem.W.Frag} {G : Hp} (r : Reps K G xs vs) {k : Int} {j : Nat} (h : ixN xs.length k = some j) : ixN vs.length k = some j := by rw [← r.length]; exact h
theorem js_setix (i : Nat) {x : Str} {ie : Expr} {ipos pos' : Pos} (h : JE X W e qe) (hk : JE X W ie qk) (hv : PE X (.Name x pos') (tVar i) := by exact pv _)
    (ha : ∀ v, assign (.Subscript (.Name x pos') ie ipos) X.env v = (do
      let ov ← holding [v] (eval (.Name x pos') X.env)
      let iv ← holding [v, ov] (eval ie X.env)
      standAt ipos
      holding [v, ov, iv] (setItem ov iv v)
      release [v, ov, iv] []) := by intro _; rfl) (hs : swapsWithSole [.Subscript (.Name x pos') ie ipos] e pos.line X.env = pure false := by rfl) (hw : swappedStores [.Subscript (.Name x pos') ie ipos] e X.env = pure none := by rfl)
    (h1 : (assignEach [.Subscript (.Name x pos') ie ipos] X.env).map (·.2) = [assign (.Subscript (.Name x pos') ie ipos) X.env] := by rfl) : JS X W (.Assign [.Subscript (.Name x pos') ie ipos] e pos) (qSetIx i qk qe) := by
  refine PS.imp (ps_asg h (pg_sub hv hk set_list ha) hs hw h1) fun Dh σ H ⟨Gb, Hb, ρ, G, D, R, M, q⟩ => ?_
  unfold qSetIx at q
  split at q
  · rename_i xs ex
    refine ⟨Gb, Hb, ρ, G, D.ex ρ, _, R, M.exok R, q, fun x v G1 H1 s1 r1 q1 => ?_⟩
    have R1 := R.mono s1
    obtain ⟨a, vs, e1, e2, e3, e4, e5⟩ := R1.own i xs ex
    refine ⟨.ref a, e1, Gb, Hb, ρ, G1, D.ex ρ, _, R1, M.exok R1, q1, fun k w G2 H2 s2 r2 q2 => ?_⟩
    split at q2
    · obtain ⟨j, hj, q2⟩ := q2
      have e2' := s2.hh _ _ e2
      refine ⟨a, vs, _, j, rfl, rep_int r2, e2', ixN_len e3 hj, ?_⟩
      exact M.nx _ _ G2 _ ((R1.mono s2).turn ex e1 e2' ((e3.mono s2.gg).set (r1.mono s2.gg) j)) q2
    · exact q2.elim
  · exact q.elim
theorem js_par (i j : Nat) {x y : Str} {ea eb : Expr} {px py pt : Pos} {kt k2 pt2} (hc : X.calm = true) (hN : X.N.Nodup) (hij : i ≠ j) (ha : JA X W [ea, eb] qa) (hi : X.N[i]? = some x := by rfl) (hj : X.N[j]? = some y := by rfl)
    (hx : X.env.scope.names.lookup x = some .local := by rfl) (hy : X.env.scope.names.lookup y = some .local := by rfl)
    (hw : swappedStores [.Tuple [.Name x px, .Name y py] kt pt] (.Tuple [ea, eb] k2 pt2) X.env = pure (some [x, y]) := by rfl)
    (hs : swapsWithSole [.Tuple [.Name x px, .Name y py] kt pt] (.Tuple [ea, eb] k2 pt2) pos.line X.env = pure false := by rfl) :
    JS X W (.Assign [.Tuple [.Name x px, .Name y py] kt pt] (.Tuple [ea, eb] k2 pt2) pos) (qPar i j qa) := by
  refine PS.imp (ps_par hc hN hi hj hij hx hy ha hw hs) fun Dh σ H ⟨Gb, Hb, ρ, G, D, R, M, q⟩ => ?_
  refine ⟨Gb, Hb, ρ, G, D.ex ρ, _, R, M.exok R, q, fun xs vs G1 H1 s1 r1 q1 => ?_⟩
  split at q1
  · cases r1 with
    | cons ra rr =>
      cases rr with
      | cons rb rr =>
        cases rr
        exact ⟨_, _, rfl, M.nx _ _ G1 H1 (((R.mono s1).set i ra).set j rb) q1⟩
  · exact q1.elim
/-- the targets of an unpacking: names -/
def gNames : List Nat → TGs
  | [] => gNil
  | i :: is => gCons (gName i) (gNames is)
theorem gnames_ok {K : PySem.W.Frag} {Gb Hb G H : Hp} {Qh : L2.St → Hp → Prop} {I : PSt → Prop} (k : ∀ ρ σ, RelS K Gb Hb ρ σ G H → I ρ → Qh σ H) : ∀ (is : List Nat) (xs : List PV) (vs : List V) (ρ : PSt) (σ : L2.St), RelS K Gb Hb ρ σ G H → Reps K G xs vs → xs.length = is.length → I (setAll ρ is xs) → gNames is vs σ H Qh
  | [], [], _, ρ, σ, R, .nil, _, q => ⟨rfl, k ρ σ R q⟩
  | i :: is, x :: xs, _, ρ, σ, R, .cons h t, l, q => ⟨_, _, rfl, gnames_ok k is xs _ _ _ (R.set i h) t (by simpa using l) q⟩
theorem js_unp (is : List Nat) {es : List Expr} {kk : Nat} {tpos : Pos} (hc : X.calm = true) (hg : PGs X es (gNames is)) (h : JE X W e qe) (hn : (assignEach es X.env).length = is.length := by rfl) (hst : (assignEach es X.env).findIdx? (·.1) = none := by rfl)
    (hs : swapsWithSole [.Tuple es kk tpos] e pos.line X.env = pure false := by rfl) (hw : swappedStores [.Tuple es kk tpos] e X.env = pure none := by rfl)
    (h1 : (assignEach [.Tuple es kk tpos] X.env).map (·.2) = [assign (.Tuple es kk tpos) X.env] := by rfl) : JS X W (.Assign [.Tuple es kk tpos] e pos) (qUnp is qe) := by
  refine PS.imp (ps_asg h (pg_tup hc hg hn hst) hs hw h1) fun Dh σ H ⟨Gb, Hb, ρ, G, D, R, M, q⟩ => ?_
  refine ⟨Gb, Hb, ρ, G, D.ex ρ, _, R, M.exok R, q, fun x v G1 H1 s1 r1 q1 => ?_⟩
  split at q1
  · cases r1 with
    | tup hq r =>
      exact ⟨_, _, rfl, Same.sqT s1.gh hq, by rw [← r.length]; exact q1.1, gnames_ok (fun ρ' σ' R' q' => M.nx ρ' σ' G1 H1 R' q') is _ _ ρ σ (R.mono s1) r q1.1 q1.2⟩
  · exact q1.elim
theorem js_unpL (is : List Nat) {es : List Expr} {kk : Nat} {tpos : Pos} (hc : X.calm = true) (hg : PGs X es (gNames is)) (h : JE X W e qe) (hn : (assignEach es X.env).length = is.length := by rfl) (hst : (assignEach es X.env).findIdx? (·.1) = none := by rfl)
    (hs : swapsWithSole [.Tuple es kk tpos] e pos.line X.env = pure false := by rfl) (hw : swappedStores [.Tuple es kk tpos] e X.env = pure none := by rfl)
    (h1 : (assignEach [.Tuple es kk tpos] X.env).map (·.2) = [assign (.Tuple es kk tpos) X.env] := by rfl) : JS X W (.Assign [.Tuple es kk tpos] e pos) (qUnpL is qe) := by
  refine PS.imp (ps_asg h (pg_lst hc hg hn hst) hs hw h1) fun Dh σ H ⟨Gb, Hb, ρ, G, D, R, M, q⟩ => ?_
  refine ⟨Gb, Hb, ρ, G, D.ex ρ, _, R, M.exok R, q, fun x v G1 H1 s1 r1 q1 => ?_⟩
  split at q1
  · cases r1 with
    | lst hq r =>
      exact ⟨_, _, rfl, s1.gh.seq hq, by rw [← r.length]; exact q1.1, gnames_ok (fun ρ' σ' R' q' => M.nx ρ' σ' G1 H1 R' q') is _ _ ρ σ (R.mono s1) r q1.1 q1.2⟩
  · exact q1.elim
theorem js_fld (i : Nat) {x f : Str} {C : Addr} {pos' apos : Pos} (hC : Cls X.K C) (hn : NoAttr X.K C f) (h : JE X W e qe) (hv : PE X (.Name x pos') (tVar i) := by exact pv _) (hs : swapsWith e (some (.Attribute (.Name x pos') f apos)) pos.line X.env = pure false := by rfl) :
    JS X W (.Assign [.Attribute (.Name x pos') f apos] e pos) (qFldS i f C qe) := by
  refine PS.imp (ps_fld hv h hs) fun Dh σ H ⟨Gb, Hb, ρ, G, D, R, M, q⟩ => ?_
  unfold qFldS at q
  split at q
  · rename_i a C' fs ex
    obtain ⟨eC, hl, q⟩ := q
    subst eC
    refine ⟨Gb, Hb, ρ, G, D.ex ρ, _, R, M.exok R, q, fun x v G1 H1 s1 r1 q1 => ?_⟩
    have R1 := R.mono s1
    obtain ⟨dx, gs, e1, e2, e3, e4, e5⟩ := R1.ins i a _ fs ex
    refine ⟨.ref a, e1, a, _, dx, gs, rfl, e2, hC, hn, ?_, ?_⟩
    · rw [← e3.length]; omega
    · exact M.nx _ _ G1 _ (R1.fld ex e2 (e3.put r1)) q1
  · exact q.elim

/-! ### loops -/
theorem loop_drop {i : Nat} {D : QD} {xs : List PV} {k : Nat} {x : PV} {ρ : PSt} (h : xs[k]? = some x) (q' : qLoop i q D (xs.drop k) ρ) : q { D with nx := fun ρ' => qLoop i q D (xs.drop (k + 1)) ρ', ct := fun ρ' => qLoop i q D (xs.drop (k + 1)) ρ', bk := D.nx } (ρ.set i (some (.pv x))) := by
  have hl : k < xs.length := by
    rcases Nat.lt_or_ge k xs.length with h' | h'
    · exact h'
    · rw [List.getElem?_eq_none h'] at h; cases h
  rw [List.drop_eq_getElem_cons hl] at q'
  rw [List.getElem?_eq_getElem hl] at h
  cases h
  exact q'
theorem js_forL (i : Nat) {x : Str} {ie : Expr} {npos : Pos} (hp : PassesOwn (model X.prog X.w) X.A X.env X.xe) (hc : X.calm = true) (hN : X.N.Nodup) (h : JE X W ie qe) (hb : JSs X W a q) (hi : X.N[i]? = some x := by rfl)
    (hx : Loc X.env.scope x := by first | exact Or.inl rfl | exact Or.inr rfl) (hf : X.fn x = true ∨ X.env.scope.names.lookup x = some .local := by first | exact .inl rfl | exact .inr rfl)
    (hs : ∀ x, foldedSetIterable ie X.env x = pure x := by intro _; rfl) : JS X W (.For (.Name x npos) ie a [] pos) (qForL i qe q) := by
  refine PS.imp (ps_for hp hc (pi_list h) (pg_name hN hi hx hf) hb hs) fun Dh σ H ⟨Gb, Hb, ρ, G, D, R, M, q'⟩ => ?_
  refine ⟨Gb, Hb, ρ, G, D.ex ρ, _, R, M.exok R, q', fun x v G1 H1 s1 r1 q1 => ?_⟩
  split at q1
  · rename_i xs
    cases r1 with
    | @lst adr vs _ hq hr =>
      have R1 := R.mono s1
      have M1 := M.rebase R1.step
      refine ⟨adr, rfl, ⟨vs, R1.gh.seq hq⟩, for_list (K := X.K) (a := adr) (xs := vs) (fun k σ' H' => ∃ ρ' G', RelS X.K G1 (join G1 Hb) ρ' σ' G' H' ∧ qLoop i q D (xs.drop k) ρ') ⟨ρ, G1, R1.rebase, q1⟩
        (fun k σ' H' _ ⟨ρ', G', R', _⟩ => R'.gh.seq (R'.step.gg.seq hq)) ?_ ?_⟩
      · rintro k v σ' H' hv ⟨ρ', G', R', q2⟩
        obtain ⟨x, hx', rx⟩ := hr.getV hv
        have q3 := loop_drop hx' q2
        refine ⟨G1, join G1 Hb, _, G', { D with nx := fun ρ' => qLoop i q D (xs.drop (k + 1)) ρ', ct := fun ρ' => qLoop i q D (xs.drop (k + 1)) ρ', bk := D.nx }, R'.set i (rx.mono R'.step.gg), ?_, q3⟩
        exact ⟨fun ρ2 σ2 G2 H2 R2 q => ⟨ρ2, G2, R2, q⟩, M1.rt, M1.nx, fun ρ2 σ2 G2 H2 R2 q => ⟨ρ2, G2, R2, q⟩, M1.ex⟩
      · rintro σ' H' ⟨ρ', G', R', q2⟩
        rw [← hr.length, List.drop_length] at q2
        exact M1.nx _ _ _ _ R' q2
  · exact q1.elim
theorem js_forT (i : Nat) {x : Str} {ie : Expr} {npos : Pos} (hp : PassesOwn (model X.prog X.w) X.A X.env X.xe) (hc : X.calm = true) (hN : X.N.Nodup) (h : JE X W ie qe) (hb : JSs X W a q) (hi : X.N[i]? = some x := by rfl)
    (hx : Loc X.env.scope x := by first | exact Or.inl rfl | exact Or.inr rfl) (hf : X.fn x = true ∨ X.env.scope.names.lookup x = some .local := by first | exact .inl rfl | exact .inr rfl)
    (hs : ∀ x, foldedSetIterable ie X.env x = pure x := by intro _; rfl) : JS X W (.For (.Name x npos) ie a [] pos) (qForT i qe q) := by
  refine PS.imp (ps_for hp hc (pi_tup h) (pg_name hN hi hx hf) hb hs) fun Dh σ H ⟨Gb, Hb, ρ, G, D, R, M, q'⟩ => ?_
  refine ⟨Gb, Hb, ρ, G, D.ex ρ, _, R, M.exok R, q', fun x v G1 H1 s1 r1 q1 => ?_⟩
  split at q1
  · rename_i xs
    cases r1 with
    | @tup adr vs _ hq hr =>
      have R1 := R.mono s1
      have M1 := M.rebase R1.step
      refine ⟨adr, rfl, ⟨vs, Same.sqT R1.gh hq⟩, for_tup (K := X.K) (a := adr) (xs := vs) (fun k σ' H' => ∃ ρ' G', RelS X.K G1 (join G1 Hb) ρ' σ' G' H' ∧ qLoop i q D (xs.drop k) ρ') ⟨ρ, G1, R1.rebase, q1⟩
        (fun k σ' H' _ ⟨ρ', G', R', _⟩ => Same.sqT R'.gh (Same.sqT R'.step.gg hq)) ?_ ?_⟩
      · rintro k v σ' H' hv ⟨ρ', G', R', q2⟩
        obtain ⟨x, hx', rx⟩ := hr.getV hv
        have q3 := loop_drop hx' q2
        refine ⟨G1, join G1 Hb, _, G', { D with nx := fun ρ' => qLoop i q D (xs.drop (k + 1)) ρ', ct := fun ρ' => qLoop i q D (xs.drop (k + 1)) ρ', bk := D.nx }, R'.set i (rx.mono R'.step.gg), ?_, q3⟩
        exact ⟨fun ρ2 σ2 G2 H2 R2 q => ⟨ρ2, G2, R2, q⟩, M1.rt, M1.nx, fun ρ2 σ2 G2 H2 R2 q => ⟨ρ2, G2, R2, q⟩, M1.ex⟩
      · rintro σ' H' ⟨ρ', G', R', q2⟩
        rw [← hr.length, List.drop_length] at q2
        exact M1.nx _ _ _ _ R' q2
  · exact q1.elim
theorem range_get {lo : Int} {n k : Nat} (h : k < n) : (rangeP lo n)[k]? = some (.int (lo + (k : Int))) := by
  unfold rangeP
  rw [List.getElem?_map, List.getElem?_range h]
  rfl
theorem range_len {lo : Int} {n : Nat} : (rangeP lo n).length = n := by
  unfold rangeP
  rw [List.length_map, List.length_range]
theorem range_run {K : PySem.W.Frag} {Gb Hb G H : Hp} {D : QD} {Dh : Ends} {ρ : PSt} {σ : L2.St} {lo : Int} {n i : Nat} {tb : TS} (R : RelS K Gb Hb ρ σ G H) (M : Mt K W Gb Hb D Dh) (q1 : qLoop i q D (rangeP lo n) ρ) (htb : ∀ Dh σ H, tSJ K W q Dh σ H → tb Dh σ H) :
    ∃ W : Nat → Nat → L2.St → Hp → Prop, (∃ m, W 0 m σ H) ∧ ∀ i' m σ H, W i' m σ H →
      ((Itr lo n).stop i' H ∧ Dh.nx σ H) ∨ ((Itr lo n).go i' H ∧ ∃ N : L2.St → Hp → Prop, (∀ σ' H', N σ' H' → ∃ m', m' < m ∧ W (i' + 1) m' σ' H') ∧ ∀ x H', (Itr lo n).yld i' H x H' → gName i x σ H' fun σ2 H2 => tb { Dh with nx := N, ct := N, bk := Dh.nx } σ2 H2) := by
  refine for_range (lo := lo) (n := n) (fun k σ' H' => ∃ ρ' G', RelS K Gb Hb ρ' σ' G' H' ∧ qLoop i q D ((rangeP lo n).drop k) ρ') ⟨ρ, G, R, q1⟩ ?_ ?_
  · rintro k σ' H' hk ⟨ρ', G', R', q2⟩
    have q3 := loop_drop (range_get hk) q2
    refine htb _ _ _ ⟨Gb, Hb, _, G', { D with nx := fun ρ' => qLoop i q D ((rangeP lo n).drop (k + 1)) ρ', ct := fun ρ' => qLoop i q D ((rangeP lo n).drop (k + 1)) ρ', bk := D.nx }, R'.set i (.int _), ?_, q3⟩
    exact ⟨fun ρ2 σ2 G2 H2 R2 q => ⟨ρ2, G2, R2, q⟩, M.rt, M.nx, fun ρ2 σ2 G2 H2 R2 q => ⟨ρ2, G2, R2, q⟩, M.ex⟩
  · rintro σ' H' ⟨ρ', G', R', q2⟩
    rw [List.drop_of_length_le (by rw [range_len]; exact Nat.le_refl _)] at q2
    exact M.nx _ _ _ _ R' q2
theorem js_forR1 (i : Nat) {x : Str} {ae : Expr} {npos p pos2 : Pos} (hp : PassesOwn (model X.prog X.w) X.A X.env X.xe) (hc : X.calm = true) (hN : X.N.Nodup) (hm : X.mg "range" = none) (h : JA X W [ae] qa) (hb : JSs X W a q) (hg : Gl X "range" := by rfl) (hi : X.N[i]? = some x := by rfl)
    (hx : Loc X.env.scope x := by first | exact Or.inl rfl | exact Or.inr rfl) (hf : X.fn x = true ∨ X.env.scope.names.lookup x = some .local := by first | exact .inl rfl | exact .inr rfl)
    (hs : ∀ x, foldedSetIterable (.Call (.Name "range" p) [ae] [] pos2) X.env x = pure x := by intro _; rfl) (hs2 : starEach [ae] X.env = [(false, eval ae X.env)] := by rfl) : JS X W (.For (.Name x npos) (.Call (.Name "range" p) [ae] [] pos2) a [] pos) (qForR1 i qa q) := by
  refine PS.imp (ps_for hp hc (pi_range1 hg hm h hs2) (pg_name hN hi hx hf) hb hs) fun Dh σ H ⟨Gb, Hb, ρ, G, D, R, M, q'⟩ => ?_
  refine ⟨Gb, Hb, ρ, G, D.ex ρ, _, R, M.exok R, q', fun xs vs G1 H1 s1 r1 q1 => ?_⟩
  split at q1
  · cases r1 with
    | cons r1 rr =>
      cases r1; cases rr
      exact ⟨_, rfl, q1.1, q1.2.1, range_run (R.mono s1) M q1.2.2 fun _ _ _ z => z⟩
  · exact q1.elim
theorem js_forR2 (i : Nat) {x : Str} {ae be : Expr} {npos p pos2 : Pos} (hp : PassesOwn (model X.prog X.w) X.A X.env X.xe) (hc : X.calm = true) (hN : X.N.Nodup) (hm : X.mg "range" = none) (h : JA X W [ae, be] qa) (hb : JSs X W a q) (hg : Gl X "range" := by rfl) (hi : X.N[i]? = some x := by rfl)
    (hx : Loc X.env.scope x := by first | exact Or.inl rfl | exact Or.inr rfl) (hf : X.fn x = true ∨ X.env.scope.names.lookup x = some .local := by first | exact .inl rfl | exact .inr rfl)
    (hs : ∀ x, foldedSetIterable (.Call (.Name "range" p) [ae, be] [] pos2) X.env x = pure x := by intro _; rfl) (hs2 : starEach [ae, be] X.env = [(false, eval ae X.env), (false, eval be X.env)] := by rfl) (hs3 : starEach [be] X.env = [(false, eval be X.env)] := by rfl) :
    JS X W (.For (.Name x npos) (.Call (.Name "range" p) [ae, be] [] pos2) a [] pos) (qForR2 i qa q) := by
  refine PS.imp (ps_for hp hc (pi_range2 hg hm h hs2 hs3) (pg_name hN hi hx hf) hb hs) fun Dh σ H ⟨Gb, Hb, ρ, G, D, R, M, q'⟩ => ?_
  refine ⟨Gb, Hb, ρ, G, D.ex ρ, _, R, M.exok R, q', fun xs vs G1 H1 s1 r1 q1 => ?_⟩
  split at q1
  · cases r1 with
    | cons r1 rr =>
      cases rr with
      | cons r2 rr =>
        cases r1; cases r2; cases rr
        exact ⟨_, _, rfl, q1.1, range_run (R.mono s1) M q1.2 fun _ _ _ z => z⟩
  · exact q1.elim
theorem js_while (hp : PassesOwn (model X.prog X.w) X.A X.env X.xe) (h : JT X W ce c) (hb : JSs X W a q) : JS X W (.While ce a [] pos) (qWhile c q) := by
  refine PS.imp (ps_while hp h hb) fun Dh σ H ⟨Gb, Hb, ρ, G, D, R, M, I, ⟨m, i0⟩, q'⟩ => ?_
  refine ⟨fun m σ' H' => ∃ ρ' G', RelS X.K Gb Hb ρ' σ' G' H' ∧ I m ρ', ⟨m, ρ, G, R, i0⟩, ?_⟩
  rintro m σ' H' ⟨ρ', G', R', im⟩
  refine ⟨Gb, Hb, ρ', G', D.ex ρ', _, R', M.exok R', q' m ρ' im, fun b G2 H2 s2 q2 => ?_⟩
  cases b with
  | true =>
    rw [if_pos rfl] at q2 ⊢
    refine ⟨fun σ3 H3 => ∃ ρ3 G3, RelS X.K Gb Hb ρ3 σ3 G3 H3 ∧ ∃ m', m' < m ∧ I m' ρ3, fun σ3 H3 ⟨ρ3, G3, R3, m', hm, im'⟩ => ⟨m', hm, ρ3, G3, R3, im'⟩, ?_⟩
    exact ⟨Gb, Hb, ρ', G2, { D with nx := fun ρ' => ∃ m', m' < m ∧ I m' ρ', ct := fun ρ' => ∃ m', m' < m ∧ I m' ρ', bk := D.nx }, R'.mono s2, ⟨fun ρ2 σ2 G2 H2 R2 q => ⟨ρ2, G2, R2, q⟩, M.rt, M.nx, fun ρ2 σ2 G2 H2 R2 q => ⟨ρ2, G2, R2, q⟩, M.ex⟩, q2⟩
  | false =>
    rw [if_neg Bool.false_ne_true] at q2 ⊢
    exact M.nx _ _ _ _ (R'.mono s2) q2
end
end QL

set_option maxHeartbeats 2000000
/-! ### machine: != of an own class that has __eq__ alone; abs by an own __abs__ -/
namespace PySem.W
open PySem PySem.Calls PyProof.Rows
section
variable {prog : Program} {w : World} {A : Around} {E : Value → Shared → Prop} {s : Shared} {K : Frag} {x C L f : Addr} {h₀ : Heap} {m : Str → Option Value} {ox : Obj} {od : Option Obj} {b tb : Value}
theorem one_bind (self : Value) : bindSpecial (.builtin "object.__ne__") self = pure (.builtin "object.__ne__", [self]) :=
  (Slot.of (T := "object") (name := "__ne__") (owner := "object") (n := "__ne__") (by rw [typeLookup_type, builtinLookup_eq_fast]; kernel_rfl) (by decide +kernel) (by decide +kernel) (by decide +kernel)
    (.inl (by decide +kernel)) (by rw [isSubtype_type]; kernel_rfl)).bind self
theorem one_plain : plainId "object.__ne__" = true := by decide +kernel
/-- a special name that is bound to object.__ne__ -/
theorem ifBound_ne {M : Model} {name : Str} {args : List Value} {Q : Option Value → Shared → Prop} (X : K.In s.heap) (I : InstAt s.heap x ox C od) (hs : findIn K (.ref C) name = some (some (.builtin "object.__ne__")))
    (h : wpAny M A (call (.builtin "object.__ne__") (.ref x :: args)) (fun v => Q (some v)) E s) : wpAny M A (callSpecialIfBound? (.ref x) name args) Q E s := by
  have bnd : Looks M s.heap (bindSpecial (.builtin "object.__ne__") (.ref x)) (.builtin "object.__ne__", [.ref x]) := Looks.of_pure (one_bind _)
  simp only [callSpecialIfBound?, bindSpecialIfBound?]
  refine wpAny_holding (wpAny_bind (wpAny_bind (wpAny_bind (I.type.here ((looks_findIn X hs).here ?_)))))
  refine wpAny_bind (wpAny_askSetting (wpAny_ite ?_))
  have fin : wpAny M A (call (.builtin "object.__ne__") ([.ref x] ++ args) >>= fun v => pure (some v)) Q E s := wpAny_bind (wpAny_mono h (fun v s' h' => wpAny_pure h') fun _ _ h' => h')
  split
  · exact wpAny_bind (bnd.here (wpAny_pure (by exact fin)))
  · exact wpAny_tryCatch (wpAny_bind (bnd.here (wpAny_pure (by exact fin))))
/-- object.__ne__ of an instance whose class has a def as __eq__ -/
theorem one_body (hu : A.units < cLine) (X : K.In s.heap) (I : InstAt s.heap x ox C od) (hs : findIn K (.ref C) "__eq__" = some (some (.ref f))) (hf : isFn K (.ref f) = true) {Q : Fin → Shared → Prop}
    (h : wpAny (model prog w) A (call (.ref f) [.ref x, b]) (fun v s' => ∃ k, v = .bool k ∧ Q (.done (.ret (.bool (!k)))) s') E s) : wpAny (model prog w) A (Builtin.«object.__ne__» ⟨[.ref x, b], []⟩) Q E s := by
  unfold Builtin.«object.__ne__»
  repeat (first
    | with_reducible refine wpAny_cRoomFor hu ?_
    | (refine wpAny_bind (m := callSpecialIfBound? (.ref x) (Str.ofString "__eq__") [b])
        (ifBound_K X I hs hf (wpAny_mono h (fun r s' hr => by
          obtain ⟨k, rfl, hq⟩ := hr
          repeat (first | exact hq | exact wpAny_pure hq | exact wpAny_truthy_bool hq | (refine wpAny_bind (m := truthy (.bool _)) (wpAny_truthy_bool ?_)) | wp_step)) fun _ _ e => e)))
    | wp_step)
theorem ne_K {Q : Value → Shared → Prop} (hu : A.units + 1 < cLine) (Fx : Fr h₀ L s.heap m) (X₀ : K.In h₀) (I : InstAt s.heap x ox C od) (hb : Looks (model prog w) s.heap (typeOf b) tb) (hn : notFirst K C tb = true)
    (hne : findIn K (.ref C) "__ne__" = some (some (.builtin "object.__ne__"))) (hm : mroIn K C (.type "object") = some true) (hs : findIn K (.ref C) "__eq__" = some (some (.ref f))) (hf : isFn K (.ref f) = true)
    (h : wpAny (model prog w) A.in1 (call (.ref f) [.ref x, b]) (fun v s' => ∃ k, v = .bool k ∧ Q (.bool (!k)) s') E s) : wpAny (model prog w) A (richCompare .NotEq (.ref x) b) Q E s := by
  have X := X₀.keeps Fx.keep
  have one : wpAny (model prog w) A (tryCompare (.ref x) (cmpInfo .NotEq).2.1 b) (fun r s' => ∃ v, r = some v ∧ Q v s') E s := by
    unfold tryCompare
    refine wpAny_bind (ifBound_ne X I hne (wpAny_call (codeAny_call_builtin one_plain F.cmpEntry_ne (check_slot F.cmpKind_ne F.cmpSplit_ne (I.type.andThen (looks_mroIn X hm)) (F.cmpArgs_ne _ _) ?_))))
    refine one_body (A := A.in1) (by show A.units + 1 < cLine; exact hu) X I hs hf (wpAny_mono h (fun v s' hv => ?_) fun _ _ e => e)
    obtain ⟨k, rfl, hq⟩ := hv
    refine ⟨k, rfl, ?_⟩
    first
      | exact wpAny_pure ⟨_, rfl, hq⟩
      | exact ⟨_, rfl, wpAny_pure ⟨_, rfl, hq⟩⟩
  unfold richCompare
  simp only [oneThing_ref]
  refine wpAny_holding (wpAny_bind (wpAny_cRoomFor (Nat.lt_of_succ_lt hu) ?_))
  refine wpAny_bind (I.type.here (wpAny_bind (hb.here ?_)))
  split
  · rename_i q
    have e : subIn K tb (.ref C) = some false := by
      rcases Bool.or_eq_true_iff.mp hn with e | e
      · rw [beq_iff_eq.mp e] at q; simp at q
      · exact beq_iff_eq.mp e
    refine wpAny_bind ((looks_subIn X e).here ?_)
    simp only [Bool.false_eq_true, if_false]
    refine wpAny_bind (wpAny_mono one (fun r s' z => ?_) fun _ _ e => e)
    obtain ⟨v, rfl, hq⟩ := z
    exact wpAny_pure hq
  · refine wpAny_bind (wpAny_pure ?_)
    simp only [Bool.false_eq_true, if_false]
    refine wpAny_bind (wpAny_mono one (fun r s' z => ?_) fun _ _ e => e)
    obtain ⟨v, rfl, hq⟩ := z
    exact wpAny_pure hq
/-- abs(x), x an instance whose class has a def as __abs__ -/
theorem abs_K {Q : Value → Shared → Prop} (X : K.In s.heap) (I : InstAt s.heap x ox C od) (hs : findIn K (.ref C) "__abs__" = some (some (.ref f))) (hf : isFn K (.ref f) = true)
    (h : wpAny (model prog w) A.in1 (call (.ref f) [.ref x]) Q E s) : wpAny (model prog w) A (call (.builtin "abs") [.ref x]) Q E s := by
  refine call_function_entry kind_abs plain_abs entry_abs (args_abs _) ?_
  unfold Builtin.«abs»
  refine wpAny_bind (m := oneArg "abs" _) (wpAny_pure ?_)
  refine wpAny_bind (m := callSpecial? (.ref x) (Str.ofString "__abs__")) (special_fn X I hs (beq_iff_eq.mp hf) (wpAny_mono h (fun v s' hv => ?_) fun _ _ e => e))
  exact wpAny_pure ⟨_, rfl, hv⟩
end
end PySem.W
namespace QL
open PySem PySem.Spec PyProof.Rows L2

/-! ### what a def promises -/
abbrev PSpec := List PV → Y → (PV → Prop) → Prop
abbrev ISpec := List PV → Y → (List (Str × PV) → Prop) → Prop
def spP (K : PySem.W.Frag) (P : PSpec) : Sp := fun vs H Q E => ∃ (G : Hp) (xs : List PV) (y : Y) (Qp : PV → Prop), Same G H ∧ Reps K G xs vs ∧ P xs y Qp ∧
  (∀ x v G' H', Step G H G' H' → Rep K G' x v → Qp x → Q v H') ∧ (∀ p d G' H', Step G H G' H' → RepX K G' H' p d → y p → E (.ref p.C) (some d) H')
/-- of an __init__: the instance at a is made; nothing else sees it as yet -/
def spI (K : PySem.W.Frag) (C : Addr) (P : ISpec) : Sp := fun vs H Q E => ∃ (G : Hp) (a dx : Addr) (ws : List V) (xs : List PV) (y : Y) (Qp : List (Str × PV) → Prop), vs = .ref a :: ws ∧ H a = some (.ins C dx []) ∧ G a = none ∧ Same G H ∧ Reps K G xs ws ∧ P xs y Qp ∧
  (∀ fs dx' gs G' H', Step G (del H a) G' H' → G' a = none → H' a = some (.ins C dx' gs) → RepF K G' fs gs → Qp fs → Q .non H') ∧
  (∀ p d G' H', Step G (del H a) G' H' → RepX K G' H' p d → y p → E (.ref p.C) (some d) H')
/-- what a call of here may let out is taken -/
def Tk (X : Cx) (W : WX) : Prop := ∀ σ, PassesAt (L2.CX X.prog X.w) X σ (WE W σ)
/-- a body's ends -/
def endsP (y : Y) (Q : PV → Prop) : QD := { nx := fun _ => Q .non, rt := Q, ex := fun _ => y }
def endsI (y : Y) (a C : Addr) (Q : List (Str × PV) → Prop) : QD := { nx := fun ρ => ∃ fs, ρ[0]? = some (some (.ins a C fs)) ∧ Q fs, rt := fun _ => False, ex := fun _ => y }
def startP (n : Nat) (xs : List PV) : PSt := xs.map (fun x => some (.pv x)) ++ List.replicate (n - xs.length) none
def startI (n : Nat) (a C : Addr) (xs : List PV) : PSt := some (.ins a C []) :: (xs.map (fun x => some (.pv x)) ++ List.replicate (n - (xs.length + 1)) none)
section
variable {P : Program} {w : World} {K : PySem.W.Frag} {mg : Str → Option Value} {base : Heap} {x qual : Str} {st : Stmt} {f : Addr} {fd : FuncData} {N ps : List Str} {k : Nat} {Ps : PSpec} {Is : ISpec} {C : Addr} {q : QS}
theorem tk_cx {N : List Str} {qual : Str} {sc : Scope} {f : Addr} {cd : Value} {A : Around} {outer : List Env} {s : Shared} {H : Hp} {E : XK} : Tk (cxOf (L2.CX P w) P w K mg base N qual sc f cd A outer s H E) (fun cls d _ H => E cls d H) := fun σ => passAt (takes_of rfl rfl rfl rfl) σ
theorem tk_false {X : Cx} : Tk X (fun _ _ _ _ => False) := fun σ pins H s e s' I c => by
  obtain ⟨_, _, _, _, _, _, _, _, _, _, _, _, z⟩ := c
  exact z.elim
theorem reps_start {G : Hp} : ∀ {xs : List PV} {vs : List V} {i : Nat} {x : PV} {m : Nat}, Reps K G xs vs → (xs.map (fun x => some (Sl.pv x)) ++ List.replicate m none)[i]? = some (some (.pv x)) → ∃ v, (vs.map some ++ List.replicate m none)[i]? = some (some v) ∧ Rep K G x v
  | _, _, i, _, m, .nil, e => by
    have : (List.replicate m (none : Option Sl))[i]? = some (some (.pv _)) := e
    rw [List.getElem?_replicate] at this
    split at this <;> cases this
  | _, _, 0, _, m, .cons r _, e => by cases e; exact ⟨_, rfl, r⟩
  | _, _, i + 1, x, m, .cons _ t, e => reps_start (i := i) (x := x) (m := m) t e
theorem start_not {xs : List PV} {i m : Nat} {z : Sl} (h : ∀ x, z ≠ .pv x) : (xs.map (fun x => some (Sl.pv x)) ++ List.replicate m none)[i]? ≠ some (some z) := by
  intro e
  rw [List.getElem?_append] at e
  split at e
  · rw [List.getElem?_map] at e
    cases q : xs[i]? with
    | none => rw [q] at e; cases e
    | some x => rw [q] at e; cases e; exact h x rfl
  · rw [List.getElem?_replicate] at e
    split at e <;> cases e
theorem rels_start {G H : Hp} {xs : List PV} {vs : List V} {n : Nat} (s : Same G H) (r : Reps K G xs vs) : RelS K G H (startP n xs) (vs.map some ++ List.replicate (n - vs.length) none) G H where
  step := .refl s
  len := by simp [startP, r.length]
  val := fun i x e => by
    rw [← r.length]
    exact reps_start r e
  own := fun i xs e => absurd e (start_not (fun _ => Sl.noConfusion))
  ins := fun i a C fs e => absurd e (start_not (fun _ => Sl.noConfusion))
  exc := fun i a d C fs e => absurd e (start_not (fun _ => Sl.noConfusion))
  one := fun i j a C b D fs gs e => absurd e (start_not (fun _ => Sl.noConfusion))
  sep := fun i j xs ys a e => absurd e (start_not (fun _ => Sl.noConfusion))
theorem rels_startI {G H : Hp} {a dx C : Addr} {xs : List PV} {vs : List V} {n : Nat} (s : Same G H) (r : Reps K G xs vs) (ha : H a = some (.ins C dx [])) (hg : G a = none) :
    RelS K G (del H a) (startI n a C xs) ((V.ref a :: vs).map some ++ List.replicate (n - (V.ref a :: vs).length) none) G H where
  step := ⟨fun b o e => by
      by_cases c : b = a
      · subst c; rw [del_same] at e; cases e
      · rw [del_ne c] at e; exact e, Same.refl _, s, fun b o e n => by rw [e] at n; cases n⟩
  len := by simp [startI, r.length]
  val := fun i x e => by
    cases i with
    | zero => cases e
    | succ i =>
      have e' : (xs.map (fun x => some (Sl.pv x)) ++ List.replicate (n - (xs.length + 1)) none)[i]? = some (some (.pv x)) := e
      rw [r.length] at e'
      obtain ⟨v, h1, h2⟩ := reps_start (i := i) r e'
      exact ⟨v, h1, h2⟩
  own := fun i ys e => by
    cases i with
    | zero => cases e
    | succ i => exact absurd (show (xs.map (fun x => some (Sl.pv x)) ++ List.replicate (n - (xs.length + 1)) none)[i]? = _ from e) (start_not (fun _ => Sl.noConfusion))
  ins := fun i b C' fs e => by
    cases i with
    | zero => cases e; exact ⟨dx, [], rfl, ha, .nil, hg, del_same⟩
    | succ i => exact absurd (show (xs.map (fun x => some (Sl.pv x)) ++ List.replicate (n - (xs.length + 1)) none)[i]? = _ from e) (start_not (fun _ => Sl.noConfusion))
  exc := fun i b d C' fs e => by
    cases i with
    | zero => cases e
    | succ i => exact absurd (show (xs.map (fun x => some (Sl.pv x)) ++ List.replicate (n - (xs.length + 1)) none)[i]? = _ from e) (start_not (fun _ => Sl.noConfusion))
  one := fun i j b C' b' D fs gs e1 e2 => by
    cases i with
    | zero =>
      cases j with
      | zero => rfl
      | succ j => exact absurd (show (xs.map (fun x => some (Sl.pv x)) ++ List.replicate (n - (xs.length + 1)) none)[j]? = _ from e2) (start_not (fun _ => Sl.noConfusion))
    | succ i => exact absurd (show (xs.map (fun x => some (Sl.pv x)) ++ List.replicate (n - (xs.length + 1)) none)[i]? = _ from e1) (start_not (fun _ => Sl.noConfusion))
  sep := fun i j ys zs b e1 => by
    cases i with
    | zero => cases e1
    | succ i => exact absurd (show (xs.map (fun x => some (Sl.pv x)) ++ List.replicate (n - (xs.length + 1)) none)[i]? = _ from e1) (start_not (fun _ => Sl.noConfusion))
/-- THE RULE for a def -/
theorem fn_q (F : Fun K x qual st f fd) (S : FnScope N ps (defScope st)) (hl : ∀ xs y Q, Ps xs y Q → xs.length = ps.length)
    (hq : ∀ (cdv : Value) (A : Around) (outer : List Env) (s : Shared) (H : Hp) (E : XK), Room k (A.deeper (envOfC qual (defScope st) s.heap.objs.size f cdv)) →
      JSs (cxOf (L2.CX P w) P w K mg base N qual (defScope st) f cdv A outer s H E) (fun cls d _ H => E cls d H) (defBody st) q)
    (hp : ∀ xs y Q, Ps xs y Q → q (endsP y Q) (startP N.length xs)) : FnOk P w K mg base (L2.CX P w) (k + 1) f fd ps (spP K Ps) := by
  refine F.okX S (fun vs H Q E h => ?_) (fun cdv A outer s H vs Q E hr h => ⟨_, hq cdv A outer s H E hr, ?_⟩)
  · obtain ⟨G, xs, y, Qp, _, r, p, _⟩ := h
    rw [← r.length]
    exact hl xs y Qp p
  · obtain ⟨G, xs, y, Qp, sm, r, p, k1, k2⟩ := h
    refine ⟨G, H, startP N.length xs, G, endsP y Qp, rels_start sm r, ⟨fun ρ σ G' H' R q => k1 .non .non G' H' R.step .non q, fun x v G' H' s r q => k1 x v G' H' s r q, fun _ _ _ _ _ q => q, fun _ _ _ _ _ q => q, fun ρ σ G' H' p d R r q => k2 p d G' H' R.step r q⟩, hp xs y Qp p⟩
/-- .. for an __init__ -/
theorem fn_qI (F : Fun K x qual st f fd) (S : FnScope N ps (defScope st)) (hl : ∀ xs y Q, Is xs y Q → xs.length + 1 = ps.length)
    (hq : ∀ (cdv : Value) (A : Around) (outer : List Env) (s : Shared) (H : Hp) (E : XK), Room k (A.deeper (envOfC qual (defScope st) s.heap.objs.size f cdv)) →
      JSs (cxOf (L2.CX P w) P w K mg base N qual (defScope st) f cdv A outer s H E) (fun cls d _ H => E cls d H) (defBody st) q)
    (hp : ∀ a xs y Q, Is xs y Q → q (endsI y a C Q) (startI N.length a C xs)) : FnOk P w K mg base (L2.CX P w) (k + 1) f fd ps (spI K C Is) := by
  refine F.okX S (fun vs H Q E h => ?_) (fun cdv A outer s H vs Q E hr h => ⟨_, hq cdv A outer s H E hr, ?_⟩)
  · obtain ⟨G, a, dx, ws, xs, y, Qp, rfl, _, _, _, r, p, _⟩ := h
    show ws.length + 1 = _
    rw [← r.length]
    exact hl xs y Qp p
  · obtain ⟨G, a, dx, ws, xs, y, Qp, rfl, ha, hg, sm, r, p, k1, k2⟩ := h
    refine ⟨G, del H a, startI N.length a C xs, G, endsI y a C Qp, rels_startI sm r ha hg, ⟨fun ρ σ G' H' R q => ?_, fun _ _ _ _ _ _ q => q.elim, fun _ _ _ _ _ q => q, fun _ _ _ _ _ q => q, fun ρ σ G' H' p d R r q => k2 p d G' H' R.step r q⟩, hp a xs y Qp p⟩
    obtain ⟨fs, e, q⟩ := q
    obtain ⟨dx', gs, h1, h2, h3, h4, h5⟩ := R.ins 0 a C fs e
    exact k1 fs dx' gs G' H' R.step h4 h2 h3 q
end

/-! ### calls -/
def qCall (P : PSpec) (dps : List PV) (qa : QA) : QE := fun ρ y Q => qa ρ y fun xs => P (xs ++ dps) y Q
def qMake (C : Addr) (P : ISpec) (dps : List PV) (qa : QA) : QE := fun ρ y Q => qa ρ y fun xs => P (xs ++ dps) y fun fs => Q (.obj C fs)
def qMeth (C : Addr) (m : Str) (P : PSpec) (dps : List PV) (qo : QE) (qa : QA) : QE := fun ρ y Q => qo ρ y fun x => match x with
  | .obj C' fs => C' = C ∧ fs.lookup m = none ∧ qa ρ y fun xs => P (.obj C' fs :: (xs ++ dps)) y Q
  | _ => False
def qProp (C : Addr) (P : PSpec) (qo : QE) : QE := fun ρ y Q => qo ρ y fun x => match x with
  | .obj C' fs => C' = C ∧ P [.obj C' fs] (fun _ => False) Q
  | _ => False
def qFld (C : Addr) (f : Str) (qo : QE) : QE := fun ρ y Q => qo ρ y fun x => match x with
  | .obj C' fs => C' = C ∧ ∃ u, fs.lookup f = some u ∧ Q u
  | _ => False
section
variable {X : Cx} {W : WX} {k : Nat} {f C : Addr} {fd : FuncData} {ps : List Str} {P : PSpec} {Is : ISpec} {dvs : List V} {dps : List PV} {ds : List Value} {x m : Str} {p pos apos : Pos} {e o : Expr} {es : List Expr} {qa : QA} {qo : QE}
theorem sp_call {σ : L2.St} {G H G1 H1 : Hp} {y : Y} {Q : PV → Prop} {Qh : VK} {xs : List PV} {vs : List V} (E : ExOk X.K W σ G H y) (s1 : Step G H G1 H1) (r1 : Reps X.K G1 xs vs) (hds : Reps X.K G1 dps dvs) (q1 : P (xs ++ dps) y Q)
    (k : ∀ x v G' H', Step G H G' H' → Rep X.K G' x v → Q x → Qh v H') : spP X.K P (vs ++ dvs) H1 Qh (WE W σ) :=
  ⟨G1, xs ++ dps, y, Q, s1.gh, r1.append hds, q1, fun x v G' H' s r q => k x v G' H' (s1.trans s) r q, fun p d G' H' s r q => E p d G' H' (s1.trans s) r q⟩
theorem je_call (F : FnOk X.prog X.w X.K X.mg X.base (L2.CX X.prog X.w) k f fd ps (spP X.K P)) (hr : Room k X.A) (hm : X.mg x = some (.ref f)) (hk : PySem.W.keepIn X.K (.ref f) = true) (hb : Binds X.K fd ps ds) (hd : Vals dvs ds) (hds : ∀ G, Reps X.K G dps dvs) (tk : Tk X W)
    (ha : JA X W (e :: es) qa) (hg : Gl X x := by rfl) (hdb : (x == ("__debug__" : Str)) = false := by decide) (he : starEach (e :: es) X.env = (false, eval e X.env) :: starEach es X.env := by rfl) (hpl : (backTo pos (starEach es X.env)).any (·.1) = false := by rfl) :
    JE X W (.Call (.Name x p) (e :: es) [] pos) (qCall P dps qa) := by
  refine PE.imp (pe_callSD (E := WE W) F hr hg hm hk hb hd tk ha hdb he hpl) fun σ H Qh ⟨Gb, Hb, ρ, G, y, Q, R, E, q, kk⟩ => ?_
  exact ⟨Gb, Hb, ρ, G, y, _, R, E, q, fun xs vs G1 H1 s1 r1 q1 => sp_call E s1 r1 (hds G1) q1 kk⟩
theorem je_call0 (F : FnOk X.prog X.w X.K X.mg X.base (L2.CX X.prog X.w) k f fd ps (spP X.K P)) (hr : Room k X.A) (hm : X.mg x = some (.ref f)) (hk : PySem.W.keepIn X.K (.ref f) = true) (hb : Binds X.K fd ps ds) (hd : Vals dvs ds) (hds : ∀ G, Reps X.K G dps dvs) (tk : Tk X W)
    (hg : Gl X x := by rfl) (hdb : (x == ("__debug__" : Str)) = false := by decide) : JE X W (.Call (.Name x p) [] [] pos) (qCall P dps qNil) := by
  refine ⟨fun pins s σ H Qh I ⟨Gb, Hb, ρ, G, y, Q, R, E, q, kk⟩ => ?_⟩
  refine wpAny_Call_Name_kw (ld_glob I hg hm ?_ hdb)
  exact PySem.W.callWith_K0 I.kIn hk (run_fnSD (E := WE W) (us := []) F hr hb hd (tk σ) I .nil (sp_call E (.refl R.gh) .nil (hds G) q kk))
/-- what stands behind the making of an instance -/
theorem sp_make {σ : L2.St} {G H G1 H1 : Hp} {y : Y} {Q : PV → Prop} {Qh : VK} {xs : List PV} {vs : List V} {a dx : Addr} (E : ExOk X.K W σ G H y) (s1 : Step G H G1 H1) (r1 : Reps X.K G1 xs vs) (hds : Reps X.K G1 dps dvs) (q1 : Is (xs ++ dps) y fun fs => Q (.obj C fs))
    (kk : ∀ x v G' H', Step G H G' H' → Rep X.K G' x v → Q x → Qh v H') (na : H1 a = none) (nd : H1 dx = none) (ne : dx ≠ a) :
    spI X.K C Is (.ref a :: (vs ++ dvs)) (upd (upd H1 dx (.own a)) a (.ins C dx [])) (fun v H2 => v = .non ∧ Qh (.ref a) H2) (WE W σ) := by
  have ga : G1 a = none := s1.gh.free na
  have h1 : Same H1 (del (upd (upd H1 dx (.own a)) a (.ins C dx [])) a) := fun b o e => by
    have nb : b ≠ a := ne_of_none e na
    rw [del_ne nb, upd_ne nb, upd_ne (ne_of_none e nd)]
    exact e
  have h2 : Same G1 (upd (upd H1 dx (.own a)) a (.ins C dx [])) := fun b o e => by
    have e' := s1.gh _ _ e
    rw [upd_ne (ne_of_none e' na), upd_ne (ne_of_none e' nd)]
    exact e'
  have back : ∀ {b : Addr}, del (upd (upd H1 dx (.own a)) a (.ins C dx [])) a b = none → H1 b = none := fun {b} e => by
    by_cases c : b = a
    · rw [c]; exact na
    · rw [del_ne c, upd_ne c] at e
      by_cases c2 : b = dx
      · rw [c2]; exact nd
      · rw [upd_ne c2] at e
        exact e
  refine ⟨G1, a, dx, vs ++ dvs, xs ++ dps, y, fun fs => Q (.obj C fs), rfl, upd_same, ga, h2, r1.append hds, q1, fun fs dx' gs G' H' s g' h' r q => ⟨rfl, ?_⟩, fun p d G' H' s r q => ?_⟩
  · have gg : Same G' (upd G' a (.ins C dx' gs)) := fun b o e => by rw [upd_ne (ne_of_none e g')]; exact e
    refine kk (.obj C fs) (.ref a) (upd G' a (.ins C dx' gs)) H' (s1.trans ⟨h1.trans s.hh, s.gg.trans gg, fun b o e => ?_, fun b o e n => ?_⟩) (.obj upd_same (r.mono gg)) q
    · by_cases c : b = a
      · subst c; rw [upd_same] at e; cases e; exact h'
      · rw [upd_ne c] at e; exact s.gh _ _ e
    · by_cases c : b = a
      · rw [c]; exact na
      · rw [upd_ne c] at e; exact back (s.new b o e n)
  · exact E p d G' H' (s1.trans ⟨h1.trans s.hh, s.gg, s.gh, fun b o e n => back (s.new b o e n)⟩) r q
theorem run_makeS {pins : List (Addr × Obj)} {σ : L2.St} {H : Hp} {s : Shared} {Q : VK} {us : List Value} {vs : List V} {sp : Sp} {E : XK} {CX : CXT} (M : Mk X.K C f) (F : FnOk X.prog X.w X.K X.mg X.base CX k f fd ps sp) (hr : Room (k + 1) X.A) (hb : Binds X.K fd ps ds) (hd : Vals dvs ds)
    (hx : PassesAt CX X σ E) (I : Inv X pins σ H s) (r : Vals vs us)
    (h : ∀ x dx, H x = none → H dx = none → dx ≠ x → sp (.ref x :: (vs ++ dvs)) (upd (upd H dx (.own x)) x (.ins C dx [])) (fun v H2 => v = .non ∧ Q (.ref x) H2) E) :
    wpAny (model X.prog X.w) X.A (call (.ref C) us) (EP X pins σ Q) X.xe s := by
  have hq := h (s.heap.objs.size + 1) s.heap.objs.size (I.hok.fresh (Nat.le_succ _)) (I.hok.fresh (Nat.le_refl _)) (Nat.ne_of_lt (Nat.lt_succ_self _))
  have I2 := Inv.made (C := C) I
  have r2 : Vals (V.ref (s.heap.objs.size + 1) :: (vs ++ dvs)) (Value.ref (s.heap.objs.size + 1) :: (us ++ ds)) := .cons rfl (r.append hd)
  have hl : (Value.ref (s.heap.objs.size + 1) :: us ++ ds).length = ps.length := by
    have e := r2.length
    rw [F.len _ _ _ _ hq] at e
    exact e.symm
  refine wpAny_call (make_map (f := f) I.kIn M.makes M.init (beq_iff_eq.mp M.fn) (codeAny_mono (F.run _ X.stack _ _ ⟨Value.ref (s.heap.objs.size + 1) :: us, []⟩ (Value.ref (s.heap.objs.size + 1) :: (us ++ ds)) _ _ E (hr.make C us [])
    (I2.env0.make C us []) (hb _ (Value.ref (s.heap.objs.size + 1) :: us) I2.kIn hl) r2 hq) fun r s' hq' => ?_))
  cases r with
  | error e => exact hx pins _ _ e s' I2 hq'
  | ok fl =>
    cases fl with
    | ret u =>
      obtain ⟨v, H', I3, rv, ev, q3⟩ := I2.after hq'
      subst ev
      exact ⟨rv, ⟨V.ref (s.heap.objs.size + 1), H', I3, rfl, q3⟩⟩
    | next => exact False.elim hq'
    | brk => exact False.elim hq'
    | cont => exact False.elim hq'
theorem je_make (M : Mk X.K C f) (F : FnOk X.prog X.w X.K X.mg X.base (L2.CX X.prog X.w) k f fd ps (spI X.K C Is)) (hr : Room (k + 1) X.A) (hm : X.mg x = some (.ref C)) (hb : Binds X.K fd ps ds) (hd : Vals dvs ds) (hds : ∀ G, Reps X.K G dps dvs) (tk : Tk X W)
    (ha : JA X W (e :: es) qa) (hg : Gl X x := by rfl) (hdb : (x == ("__debug__" : Str)) = false := by decide) (he : starEach (e :: es) X.env = (false, eval e X.env) :: starEach es X.env := by rfl) (hpl : (backTo pos (starEach es X.env)).any (·.1) = false := by rfl) :
    JE X W (.Call (.Name x p) (e :: es) [] pos) (qMake C Is dps qa) := by
  refine ⟨fun pins s σ H Qh I ⟨Gb, Hb, ρ, G, y, Q, R, E, q, kk⟩ => ?_⟩
  refine wpAny_Call_Name_kw (ld_glob I hg hm ?_ hdb)
  refine PySem.W.callWith_K (h₀ := X.base) I.ok.mod.kin M.kp (thn (ha.run pos pins s σ H (fun vs H1 => ∃ G1 xs, Step G H G1 H1 ∧ Reps X.K G1 xs vs ∧ Is (xs ++ dps) y fun fs => Q (.obj C fs)) I ⟨Gb, Hb, ρ, G, y, _, R, E, q, fun xs vs G1 H1 s1 r1 q1 => ⟨G1, xs, s1, r1, q1⟩⟩) fun us s1 ⟨vs, H1, I1, r, G1, xs, st, r1, q1⟩ => ⟨I1.kIn, ?_⟩) he hpl
  exact run_makeS (E := WE W σ) M F hr hb hd (tk σ) I1 r fun a dx na nd ne => sp_make E st r1 (hds G1) q1 kk na nd ne
theorem je_meth {pl : Sem Bool} (he : JE X W o qo) (c : Cls X.K C) (hm : Meth X.K C m f) (F : FnOk X.prog X.w X.K X.mg X.base (L2.CX X.prog X.w) k f fd ps (spP X.K P)) (hr : Room k X.A) (hb : Binds X.K fd ps ds) (hd : Vals dvs ds) (hds : ∀ G, Reps X.K G dps dvs) (tk : Tk X W) (ha : JA X W (e :: es) qa)
    (hst : starEach (e :: es) X.env = (false, eval e X.env) :: starEach es X.env := by rfl) (hpl : (backTo pos (starEach es X.env)).any (·.1) = false := by rfl)
    (ht : eval (.Call (.Attribute o m apos) (e :: es) [] pos) X.env = (do
      let ov ← eval o X.env
      standAt apos.atName
      let (f, first) ← holding [ov] (getMethod ov m pl)
      callWith pos f first (backTo pos (starEach (e :: es) X.env)) (backToKw pos (keywordEach [] X.env))) := by rfl) :
    JE X W (.Call (.Attribute o m apos) (e :: es) [] pos) (qMeth C m P dps qo qa) := by
  refine ⟨fun pins s σ H Qh I ⟨Gb, Hb, ρ, G, y, Q, R, E, q, kk⟩ => ?_⟩
  refine PySem.W.methodCall_KW (pl := pl) (thn (he.run pins s σ H (fun v H1 => ∃ (G1 : Hp) (a dx : Addr) (gs : List (Str × V)) (fs : List (Str × PV)), v = .ref a ∧ G1 a = some (.ins C dx gs) ∧ RepF X.K G1 fs gs ∧ fs.lookup m = none ∧ Step G H G1 H1 ∧ qa ρ y (fun xs => P (.obj C fs :: (xs ++ dps)) y Q)) I ⟨Gb, Hb, ρ, G, y, _, R, E, q, fun x v G1 H1 s1 r1 q1 => by
    split at q1
    · obtain ⟨rfl, h2, h3⟩ := q1
      cases r1 with
      | obj hg hr => exact ⟨G1, _, _, _, _, rfl, hg, hr, h2, s1, h3⟩
    · exact q1.elim⟩) fun u s1 ⟨v, H1, I1, rx, G1, a, dx, gs, fs, ex, ea, rf, l, st, q1⟩ => ?_) ht
  subst ex
  obtain rfl : u = Value.ref a := rx
  refine getmeth_ok I1 (st.gh _ _ ea) c hm (rf.lookN l) ?_
  refine PySem.W.callWith_K (first := [.ref a]) (h₀ := X.base) I.ok.mod.kin hm.kp (thn (ha.run pos pins s1 σ H1 (fun vs H2 => ∃ G2 xs, Step G1 H1 G2 H2 ∧ Reps X.K G2 xs vs ∧ P (.obj C fs :: (xs ++ dps)) y Q) I1 ⟨Gb, Hb, ρ, _, y, _, R.mono st, E.mono st, q1, fun xs vs G2 H2 s2 r2 q2 => ⟨G2, xs, s2, r2, q2⟩⟩) fun us s2 ⟨vs, H2, I2, r, G2, xs, st2, r2, q2⟩ => ⟨I2.kIn, ?_⟩) hst hpl
  have ro : Rep X.K G2 (.obj C fs) (.ref a) := .obj (st2.gg _ _ ea) (rf.mono st2.gg)
  exact run_fnSD (E := WE W) (us := .ref a :: us) (vs := .ref a :: vs) F hr hb hd (tk σ) I2 (.cons rfl r) (sp_call (xs := .obj C fs :: xs) E (st.trans st2) (.cons ro r2) (hds G2) q2 kk)
theorem je_fld (he : JE X W o qo) (c : Cls X.K C) (n : NoAttr X.K C m) (hb : attributeBase o m X.env (eval o X.env) = eval o X.env := by rfl) : JE X W (.Attribute o m pos) (qFld C m qo) := by
  refine PE.imp (pe_fld he hb) fun σ H Qh ⟨Gb, Hb, ρ, G, y, Q, R, E, q, k⟩ => ?_
  refine ⟨Gb, Hb, ρ, G, y, _, R, E, q, fun x v G1 H1 s1 r1 q1 => ?_⟩
  split at q1
  · obtain ⟨rfl, u, hu, q1⟩ := q1
    cases r1 with
    | obj hg hr =>
      obtain ⟨v', h1, h2⟩ := hr.look hu
      exact ⟨_, _, _, _, v', rfl, s1.gh _ _ hg, c, n, h1, k _ _ G1 H1 s1 h2 q1⟩
  · exact q1.elim
theorem je_prop {pa g : Addr} (he : JE X W o qo) (c : Cls X.K C) (hp : PropOf X.K C m pa g) (F : FnOk X.prog X.w X.K X.mg X.base (L2.CX X.prog X.w) k g fd ps (spP X.K P)) (hr : Room (k + 1) X.A) (hb : Binds X.K fd ps []) (hab : attributeBase o m X.env (eval o X.env) = eval o X.env := by rfl) :
    JE X W (.Attribute o m pos) (qProp C P qo) := by
  refine PE.imp (pe_prop he c hp F hr hb .nil passL hab) fun σ H Qh ⟨Gb, Hb, ρ, G, y, Q, R, E, q, k⟩ => ?_
  refine ⟨Gb, Hb, ρ, G, y, _, R, E, q, fun x v G1 H1 s1 r1 q1 => ?_⟩
  split at q1
  · obtain ⟨rfl, q1⟩ := q1
    cases r1 with
    | obj hg hr =>
      exact ⟨_, _, _, rfl, s1.gh _ _ hg, G1, _, fun _ => False, Q, s1.gh, .cons (.obj hg hr) .nil, q1, fun x v G' H' s r q => k x v G' H' (s1.trans s) r q, fun _ _ _ _ _ _ z => z.elim⟩
  · exact q1.elim
end
end QL

set_option maxHeartbeats 2000000
namespace QL
open PySem PySem.Spec PyProof.Rows L2

/-! ### built-ins called by name -/
abbrev Q1 := List PV → (PV → Prop) → Prop
def qCB (r : Q1) (qa : QA) : QE := fun ρ y Q => qa ρ y fun xs => r xs Q
def SndC (K : PySem.W.Frag) (r : List V → Hp → VK → Prop) (r' : Q1) : Prop := ∀ xs vs G H (Q : PV → Prop) (Qh : VK), Same G H → Reps K G xs vs → r' xs Q → (∀ x v G' H', Step G H G' H' → Rep K G' x v → Q x → Qh v H') → r vs H Qh
section
variable {X : Cx} {W : WX} {id T : String} {x : Str} {e : Expr} {es : List Expr} {qa : QA} {p pos : Pos} {r : List V → Hp → VK → Prop} {r' : Q1}
theorem snd_cb {K : PySem.W.Frag} (s : SndC K r r') {σ : L2.St} {H : Hp} {Qh : VK} (h : tJ K W (qCB r' qa) σ H Qh) : tCB r (tAJ K W qa) σ H Qh := by
  obtain ⟨Gb, Hb, ρ, G, y, Q, R, E, q, k⟩ := h
  exact ⟨Gb, Hb, ρ, G, y, _, R, E, q, fun xs vs G1 H1 s1 r1 q1 => s xs vs G1 H1 Q Qh s1.gh r1 q1 fun x v G2 H2 s2 r2 q2 => k x v G2 H2 (s1.trans s2) r2 q2⟩
theorem je_cb (hc : CallR X (.builtin id) r) (s : SndC X.K r r') (hm : X.mg x = none) (hv : bootBuiltins x = some (.builtin id)) (ha : JA X W (e :: es) qa) (hg : Gl X x := by rfl) (hn : x ≠ "__name__" := by decide) (hdb : (x == ("__debug__" : Str)) = false := by decide)
    (he : starEach (e :: es) X.env = (false, eval e X.env) :: starEach es X.env := by rfl) (hpl : (backTo pos (starEach es X.env)).any (·.1) = false := by rfl) : JE X W (.Call (.Name x p) (e :: es) [] pos) (qCB r' qa) := PE.imp (pe_callB hc hg hm hv ha hn hdb he hpl) fun σ H Q h => snd_cb s h
theorem je_ct (hc : CallR X (.type T) r) (s : SndC X.K r r') (hm : X.mg x = none) (hv : bootBuiltins x = some (.type T)) (ha : JA X W (e :: es) qa) (hg : Gl X x := by rfl) (hn : x ≠ "__name__" := by decide) (hdb : (x == ("__debug__" : Str)) = false := by decide)
    (he : starEach (e :: es) X.env = (false, eval e X.env) :: starEach es X.env := by rfl) (hpl : (backTo pos (starEach es X.env)).any (·.1) = false := by rfl) : JE X W (.Call (.Name x p) (e :: es) [] pos) (qCB r' qa) := PE.imp (pe_callTy hc hg hm hv ha hn hdb he hpl) fun σ H Q h => snd_cb s h
theorem je_cf (hc : CallR X (.builtin id) r) (s : SndC X.K r r') (hm : X.mg x = some (.builtin id)) (ha : JA X W (e :: es) qa) (hg : Gl X x := by rfl) (hdb : (x == ("__debug__" : Str)) = false := by decide)
    (he : starEach (e :: es) X.env = (false, eval e X.env) :: starEach es X.env := by rfl) (hpl : (backTo pos (starEach es X.env)).any (·.1) = false := by rfl) : JE X W (.Call (.Name x p) (e :: es) [] pos) (qCB r' qa) := PE.imp (pe_callBfun hc hg hm ha hdb he hpl) fun σ H Q h => snd_cb s h
def cAbs : Q1 := fun xs Q => match xs with
  | [.int i] => Q (.int (if i < 0 then -i else i))
  | _ => False
def cInt : Q1 := fun xs Q => match xs with
  | [.int i] => Q (.int i)
  | [.bl b] => Q (.int (if b then 1 else 0))
  | _ => False
def cGcd : Q1 := fun xs Q => match xs with
  | [.int i, .int j] => Q (.int ((Nat.gcd i.natAbs j.natAbs : Nat) : Int))
  | _ => False
def cLen : Q1 := fun xs Q => match xs with
  | [.lst ys] => Q (.int ys.length)
  | [.tup ys] => Q (.int ys.length)
  | _ => False
def cLenS : Q1 := fun xs Q => match xs with
  | [.str z] => z.length ≤ 100000 ∧ Q (.int z.length)
  | _ => False
theorem rep1 {K : PySem.W.Frag} {G : Hp} {x : PV} {vs : List V} (r : Reps K G [x] vs) : ∃ v, vs = [v] ∧ Rep K G x v := by
  cases r with
  | cons r t => cases t; exact ⟨_, rfl, r⟩
theorem rep2 {K : PySem.W.Frag} {G : Hp} {x z : PV} {vs : List V} (r : Reps K G [x, z] vs) : ∃ v w, vs = [v, w] ∧ Rep K G x v ∧ Rep K G z w := by
  cases r with
  | cons r t =>
    obtain ⟨w, rfl, h⟩ := rep1 t
    exact ⟨_, w, rfl, r, h⟩
theorem snd_abs {K : PySem.W.Frag} : SndC K (fun xs H Q => ∃ i, xs = [.int i] ∧ Q (.int (if i < 0 then -i else i)) H) cAbs := by
  intro xs vs G H Q Qh hs r q k
  unfold cAbs at q
  split at q
  · obtain ⟨v, rfl, h⟩ := rep1 r
    cases h
    exact ⟨_, rfl, k _ _ G H (.refl hs) (.int _) q⟩
  · exact q.elim
theorem snd_int {K : PySem.W.Frag} : SndC K (fun xs H Q => (∃ i, xs = [.int i] ∧ Q (.int i) H) ∨ ∃ k, xs = [.bl k] ∧ Q (.int (if k then 1 else 0)) H) cInt := by
  intro xs vs G H Q Qh hs r q k
  unfold cInt at q
  split at q
  · obtain ⟨v, rfl, h⟩ := rep1 r
    cases h
    exact .inl ⟨_, rfl, k _ _ G H (.refl hs) (.int _) q⟩
  · obtain ⟨v, rfl, h⟩ := rep1 r
    cases h
    exact .inr ⟨_, rfl, k _ _ G H (.refl hs) (.int _) q⟩
  · exact q.elim
theorem snd_gcd {K : PySem.W.Frag} : SndC K rGcd cGcd := by
  intro xs vs G H Q Qh hs r q k
  unfold cGcd at q
  split at q
  · obtain ⟨v, w, rfl, h1, h2⟩ := rep2 r
    cases h1; cases h2
    exact ⟨_, _, rfl, k _ _ G H (.refl hs) (.int _) q⟩
  · exact q.elim
theorem snd_len {K : PySem.W.Frag} : SndC K (fun xs H Q => ∃ p ys, xs = [.ref p] ∧ (SqL K H p ys ∨ SqT K H p ys) ∧ Q (.int ys.length) H) cLen := by
  intro xs vs G H Q Qh hs r q k
  unfold cLen at q
  split at q
  · obtain ⟨v, rfl, h⟩ := rep1 r
    cases h with
    | @lst a us _ h1 h2 =>
      have e : (us.length : Int) = (_ : Nat) := congrArg _ h2.length.symm
      exact ⟨_, us, rfl, .inl (hs.seq h1), k _ _ G H (.refl hs) (by rw [e]; exact .int _) q⟩
  · obtain ⟨v, rfl, h⟩ := rep1 r
    cases h with
    | @tup a us _ h1 h2 =>
      have e : (us.length : Int) = (_ : Nat) := congrArg _ h2.length.symm
      exact ⟨_, us, rfl, .inr (Same.sqT hs h1), k _ _ G H (.refl hs) (by rw [e]; exact .int _) q⟩
  · exact q.elim
theorem snd_lenS {K : PySem.W.Frag} : SndC K (fun xs H Q => ∃ z, xs = [.str z] ∧ z.length ≤ sizeLine ∧ Q (.int z.length) H) cLenS := by
  intro xs vs G H Q Qh hs r q k
  unfold cLenS at q
  split at q
  · obtain ⟨v, rfl, h⟩ := rep1 r
    cases h
    exact ⟨_, rfl, Nat.le_trans q.1 (by decide), k _ _ G H (.refl hs) (.int _) q.2⟩
  · exact q.elim
theorem je_abs (hm : X.mg "abs" = none) (ha : JA X W [e] qa) (hg : Gl X "abs" := by rfl) (he : starEach [e] X.env = (false, eval e X.env) :: starEach [] X.env := by rfl) (hpl : (backTo pos (starEach [] X.env)).any (·.1) = false := by rfl) : JE X W (.Call (.Name "abs" p) [e] [] pos) (qCB cAbs qa) :=
  je_cb call_abs snd_abs hm (by decide +kernel) ha hg (by decide) (by decide) he hpl
theorem je_toint (hm : X.mg "int" = none) (ha : JA X W [e] qa) (hg : Gl X "int" := by rfl) (he : starEach [e] X.env = (false, eval e X.env) :: starEach [] X.env := by rfl) (hpl : (backTo pos (starEach [] X.env)).any (·.1) = false := by rfl) : JE X W (.Call (.Name "int" p) [e] [] pos) (qCB cInt qa) :=
  je_ct call_int1 snd_int hm (by decide +kernel) ha hg (by decide) (by decide) he hpl
theorem je_gcd {e2 : Expr} {nm : Str} (hm : X.mg nm = some (.builtin "math.gcd")) (ha : JA X W [e, e2] qa) (hg : Gl X nm := by rfl) (hdb : (nm == ("__debug__" : Str)) = false := by decide) (he : starEach [e, e2] X.env = (false, eval e X.env) :: starEach [e2] X.env := by rfl) (hpl : (backTo pos (starEach [e2] X.env)).any (·.1) = false := by rfl) :
    JE X W (.Call (.Name nm p) [e, e2] [] pos) (qCB cGcd qa) := je_cf cr_gcd snd_gcd hm ha hg hdb he hpl
theorem je_len (hm : X.mg "len" = none) (ha : JA X W [e] qa) (hg : Gl X "len" := by rfl) (he : starEach [e] X.env = (false, eval e X.env) :: starEach [] X.env := by rfl) (hpl : (backTo pos (starEach [] X.env)).any (·.1) = false := by rfl) : JE X W (.Call (.Name "len" p) [e] [] pos) (qCB cLen qa) :=
  je_cb call_len_seq snd_len hm (by decide +kernel) ha hg (by decide) (by decide) he hpl
theorem je_lenS (hm : X.mg "len" = none) (ha : JA X W [e] qa) (hg : Gl X "len" := by rfl) (he : starEach [e] X.env = (false, eval e X.env) :: starEach [] X.env := by rfl) (hpl : (backTo pos (starEach [] X.env)).any (·.1) = false := by rfl) : JE X W (.Call (.Name "len" p) [e] [] pos) (qCB cLenS qa) :=
  je_cb call_len_str snd_lenS hm (by decide +kernel) ha hg (by decide) (by decide) he hpl
/-- n.bit_length() -/
def qBits (q : QE) : QE := fun ρ y Q => q ρ y fun x => match x with
  | .int i => Q (.int (Builtin.Int.intBits i : Nat))
  | _ => False
theorem je_bits {o : Expr} {q : QE} {apos : Pos} (h : JE X W o q) (hbase : attributeBase o "bit_length" X.env (eval o X.env) = eval o X.env := by rfl) (hline : (apos.endLine == pos.line) = true := by rfl) : JE X W (.Call (.Attribute o "bit_length" apos) [] [] pos) (qBits q) := by
  refine PE.imp (pe_bits h hbase hline) fun σ H Qh ⟨Gb, Hb, ρ, G, y, Q, R, E, q, k⟩ => ?_
  refine ⟨Gb, Hb, ρ, G, y, _, R, E, q, fun x v G1 H1 s1 r1 q1 => ?_⟩
  split at q1
  · exact ⟨_, rep_int r1, k _ _ G1 H1 s1 (.int _) q1⟩
  · exact q1.elim
end

/-! ### isinstance -/
def tyOfP : PV → Option Value
  | .non => some (.type "NoneType")
  | .bl _ => some (.type "bool")
  | .int _ => some (.type "int")
  | .str _ => some (.type "str")
  | .lst _ => some (.type "list")
  | .tup _ => some (.type "tuple")
  | .obj C _ => some (.ref C)
  | _ => none
/-- what isinstance and == ask of an own class -/
structure IsC (K : PySem.W.Frag) (C : Addr) : Prop where
  cl : Cls K C
  ha : PySem.W.findIn K (.ref C) "__class__" = some (some (.builtin "object.__class__"))
  hn : PySem.W.specialIn K (.builtin "object.__class__") "__get__" = some (some (.builtin "getset_descriptor.__get__"))
  htk : PySem.W.takesIn K (.builtin "object.__class__") = some true
  hm : PySem.W.mroIn K C (.type "object") = some true
theorem tyx_of {K : PySem.W.Frag} {G H : Hp} {x : PV} {v : V} {t : Value} (s : Same G H) (r : Rep K G x v) (e : tyOfP x = some t) (hc : ∀ C fs, x = .obj C fs → IsC K C) : TyX K H v t := by
  cases r with
  | non => cases e; exact .base .non
  | bl b => cases e; exact .base (.bl b)
  | int i => cases e; exact .base (.int i)
  | str z => cases e; exact .base (.str z)
  | ty n => cases e
  | adr a => cases e
  | lst h hr =>
    cases e
    rcases s.seq h with (h | ⟨o, h⟩) | ⟨o, its, n, hk, c, _⟩
    · exact .base (.lst h)
    · exact .base (.frz h)
    · exact .kList hk c
  | tup h hr =>
    cases e
    rcases Same.sqT s h with (h | ⟨o, h⟩) | ⟨o, its, n, hk, c, _⟩
    · exact .base (.tup h)
    · exact .fTuple h
    · exact .kTuple hk c
  | obj h hr =>
    cases e
    have c := hc _ _ rfl
    exact .base (.ins (s _ _ h) c.cl c.ha c.hn c.htk c.hm)
/-- r answers isinstance(x, cv) -/
def KitR (K : PySem.W.Frag) (cv : Value) (r : PV → Option Bool) : Prop := ∀ x b, r x = some b → ∃ t, tyOfP x = some t ∧ (∀ C fs, x = .obj C fs → IsC K C) ∧ PySem.W.kitOne K t cv = some b
def qIsi (r : PV → Option Bool) (q : QE) : QE := fun ρ y Q => q ρ y fun x => match r x with
  | some b => Q (.bl b)
  | none => False
section
variable {X : Cx} {W : WX} {e : Expr} {q : QE} {cn : Str} {p p2 pos : Pos} {r : PV → Option Bool}
theorem je_isi0 {ce : Expr} {c : V} {cv : Value} (hk : KitR X.K cv r) (hm : X.mg "isinstance" = none) (h : JE X W e q) (hc : PE X ce (tC c)) (hcv : ClsV c cv) (hg : Gl X "isinstance" := by rfl)
    (hs : starEach [e, ce] X.env = (false, eval e X.env) :: starEach [ce] X.env := by rfl) (hs2 : starEach [ce] X.env = (false, eval ce X.env) :: starEach [] X.env := by rfl) (hpl : (backTo pos (starEach [ce] X.env)).any (·.1) = false := by rfl) :
    JE X W (.Call (.Name "isinstance" p) [e, ce] [] pos) (qIsi r q) := by
  refine PE.imp (pe_callB call_isi hg hm (by decide +kernel) (pa_cons h (pa_cons hc pa_nil hs2) hs) (by decide) (by decide) hs hpl) fun σ H Qh ⟨Gb, Hb, ρ, G, y, Q, R, E, q, k⟩ => ?_
  refine ⟨Gb, Hb, ρ, G, y, _, R, E, q, fun x v G1 H1 s1 r1 q1 => ?_⟩
  split at q1
  · rename_i b eb
    obtain ⟨t, e1, e2, e3⟩ := hk x b eb
    exact ⟨v, c, t, cv, b, rfl, hcv, tyx_of s1.gh r1 e1 e2, e3, k _ _ G1 H1 s1 (.bl b) q1⟩
  · exact q1.elim
theorem je_isiC {C : Addr} (hk : KitR X.K (.ref C) r) (hm : X.mg "isinstance" = none) (h : JE X W e q) (hc : X.mg cn = some (.ref C)) (hg : Gl X "isinstance" := by rfl) (hg2 : Gl X cn := by rfl) (hd : (cn == ("__debug__" : Str)) = false := by decide)
    (hs : starEach [e, .Name cn p2] X.env = (false, eval e X.env) :: starEach [.Name cn p2] X.env := by rfl) (hs2 : starEach [.Name cn p2] X.env = (false, eval (.Name cn p2) X.env) :: starEach [] X.env := by rfl) (hpl : (backTo pos (starEach [.Name cn p2] X.env)).any (·.1) = false := by rfl) :
    JE X W (.Call (.Name "isinstance" p) [e, .Name cn p2] [] pos) (qIsi r q) := je_isi0 (c := .ref C) hk hm h (pe_glob hg2 hc rfl hd) (.own C) hg hs hs2 hpl
theorem je_isiT {n : String} (hk : KitR X.K (.type n) r) (hm : X.mg "isinstance" = none) (h : JE X W e q) (hc : X.mg cn = none) (hv : bootBuiltins cn = some (.type n) := by decide +kernel) (hg : Gl X "isinstance" := by rfl) (hg2 : Gl X cn := by rfl) (hn : cn ≠ "__name__" := by decide) (hd : (cn == ("__debug__" : Str)) = false := by decide)
    (hs : starEach [e, .Name cn p2] X.env = (false, eval e X.env) :: starEach [.Name cn p2] X.env := by rfl) (hs2 : starEach [.Name cn p2] X.env = (false, eval (.Name cn p2) X.env) :: starEach [] X.env := by rfl) (hpl : (backTo pos (starEach [.Name cn p2] X.env)).any (·.1) = false := by rfl) :
    JE X W (.Call (.Name "isinstance" p) [e, .Name cn p2] [] pos) (qIsi r q) := je_isi0 (c := .ty n) hk hm h (pe_bltn hg2 hc hv rfl hn hd) (.ty n) hg hs hs2 hpl
end

/-! ### operators of own classes -/
section
variable {X : Cx} {W : WX} {a b : Expr} {qa qb : QE} {pos : Pos} {k : Nat} {f C : Addr} {fd : FuncData} {ps : List Str} {P : PSpec}
def qBin (C : Addr) (P : PSpec) (qa qb : QE) : QE := fun ρ y Q => qa ρ y fun x => qb ρ y fun z => match x, z with
  | .obj C1 fs, .obj C2 gs => C1 = C ∧ C2 = C ∧ P [.obj C1 fs, .obj C2 gs] y Q
  | _, _ => False
def qUna (C : Addr) (P : PSpec) (qa : QE) : QE := fun ρ y Q => qa ρ y fun x => match x with
  | .obj C1 fs => C1 = C ∧ P [.obj C1 fs] (fun _ => False) Q
  | _ => False
theorem snd_two {K : PySem.W.Frag} {σ : L2.St} {H G Gb Hb : Hp} {ρ : PSt} {y : Y} {R' : PV → PV → Prop} (R : RelS K Gb Hb ρ σ G H) (E : ExOk K W σ G H y) (h : qa ρ y fun x => qb ρ y fun z => R' x z) :
    tJ K W qa σ H fun v H1 => tJ K W qb σ H1 fun w H2 => ∃ (G2 : Hp) (x z : PV), Step G H G2 H2 ∧ Rep K G2 x v ∧ Rep K G2 z w ∧ R' x z :=
  ⟨Gb, Hb, ρ, G, y, _, R, E, h, fun x v G1 H1 s1 r1 q1 => ⟨Gb, Hb, ρ, G1, y, _, R.mono s1, E.mono s1, q1, fun z w G2 H2 s2 r2 q2 => ⟨G2, x, z, s1.trans s2, r1.mono s2.gg, r2, q2⟩⟩⟩
theorem inst_of {pins : List (Addr × Obj)} {σ : L2.St} {H : Hp} {s : Shared} {a dx : Addr} {gs : List (Str × V)} (I : Inv X pins σ H s) (e : H a = some (.ins C dx gs)) : ∃ od, PySem.W.InstAt s.heap a (PySem.W.instObj C dx) C (some od) := by
  obtain ⟨mA, O, _⟩ := ins_get I.hok e
  obtain ⟨od, J, _⟩ := O.look
  exact ⟨od, J⟩
theorem je_bin {op : Operator} (hC : PySem.W.selfFirst X.K C = true) (hs : PySem.W.findIn X.K (.ref C) (PySem.dunder op.info.2) = some (some (.ref f))) (hf : PySem.W.isFn X.K (.ref f) = true) (F : FnOk X.prog X.w X.K X.mg X.base (L2.CX X.prog X.w) k f fd ps (spP X.K P)) (hr : Room k X.A) (hb : Binds X.K fd ps [])
    (tk : Tk X W) (h1 : JE X W a qa) (h2 : JE X W b qb) : JE X W (.BinOp a op b pos) (qBin C P qa qb) := by
  refine ⟨fun pins s σ H Qh I ⟨Gb, Hb, ρ, G, y, Q, R, E, q, kk⟩ => ?_⟩
  refine wpAny_BinOp (binT h1 h2 I (snd_two R E q) fun v u s2 x z H2 I2 rx rz ⟨G2, x', z', st, r1, r2, q2⟩ => ?_)
  split at q2
  · obtain ⟨rfl, rfl, q2⟩ := q2
    cases r1 with
    | @obj _ a1 _ _ _ g1 f1 =>
      cases r2 with
      | @obj _ a2 _ _ _ g2 f2 =>
        cases (show v = Value.ref a1 from rx)
        cases (show u = Value.ref a2 from rz)
        obtain ⟨od, J⟩ := inst_of I2 (st.gh _ _ g1)
        obtain ⟨od', J'⟩ := inst_of I2 (st.gh _ _ g2)
        obtain ⟨m, hF⟩ := I2.fr
        refine PySem.W.binop_K hF I2.ok.mod.kin J J'.type hC hs hf ?_
        refine wpAny_mono (run_fnSD (E := WE W) (us := [.ref a1, .ref a2]) (vs := [.ref a1, .ref a2]) F hr hb .nil (tk σ) I2 (.cons rfl (.cons rfl .nil)) (sp_call (dps := []) E st (.cons (.obj g1 f1) (.cons (.obj g2 f2) .nil)) .nil q2 kk)) (fun w s' z => ?_) fun _ _ x => x
        obtain ⟨z', H', I', rz, qz⟩ := z
        exact SlX.cmpback rz ⟨z', H', I', rz, qz⟩
  · exact q2.elim
/-- the callee runs below the running body; it lets nothing out -/
theorem run_in {A : Around} {pins : List (Addr × Obj)} {σ : L2.St} {H : Hp} {s : Shared} {Q : VK} {us : List Value} {ws : List V} {sp : Sp} {E' : Value → Shared → Prop} (F : FnOk X.prog X.w X.K X.mg X.base (L2.CX X.prog X.w) k f fd ps sp) (hr : Room k A) (e0 : Env0 X.prog X.w X.K X.mg X.base A X.stack s H) (hb : Binds X.K fd ps []) (I : Inv X pins σ H s)
    (r : Vals ws us) (h : sp ws H Q E0) : wpAny (model X.prog X.w) A (call (.ref f) us) (EP X pins σ Q) E' s := by
  have hl : us.length = ps.length := by rw [← r.length]; exact F.len _ _ _ _ h
  have bb := hb s us I.kIn (by rw [List.append_nil]; exact hl)
  rw [List.append_nil] at bb
  refine wpAny_call (codeAny_mono (F.run A X.stack s H ⟨us, []⟩ us ws Q E0 hr e0 bb r h) fun r s' hq => ?_)
  cases r with
  | error e =>
    obtain ⟨_, _, _, _, _, _, _, _, _, _, _, _, z⟩ := hq
    exact z.elim
  | ok fl =>
    cases fl with
    | ret u => exact I.after hq
    | next => exact False.elim hq
    | brk => exact False.elim hq
    | cont => exact False.elim hq
theorem sp_in {G H G1 H1 : Hp} {Q : PV → Prop} {Qh : VK} {xs : List PV} {vs : List V} (s1 : Step G H G1 H1) (r1 : Reps X.K G1 xs vs) (q1 : P xs (fun _ => False) Q) (k : ∀ x v G' H', Step G H G' H' → Rep X.K G' x v → Q x → Qh v H') : spP X.K P vs H1 Qh E0 :=
  ⟨G1, xs, fun _ => False, Q, s1.gh, r1, q1, fun x v G' H' s r q => k x v G' H' (s1.trans s) r q, fun _ _ _ _ _ _ z => z.elim⟩
theorem je_una (hs : PySem.W.findIn X.K (.ref C) "__neg__" = some (some (.ref f))) (hf : PySem.W.isFn X.K (.ref f) = true) (F : FnOk X.prog X.w X.K X.mg X.base (L2.CX X.prog X.w) k f fd ps (spP X.K P)) (hr : Room k X.A) (hb : Binds X.K fd ps [])
    (h1 : JE X W a qa) : JE X W (.UnaryOp .USub a pos) (qUna C P qa) := by
  refine ⟨fun pins s σ H Qh I ⟨Gb, Hb, ρ, G, y, Q, R, E, q, kk⟩ => ?_⟩
  refine UnaryOp_ (thn (h1.run pins s σ H (fun v H1 => ∃ (G1 : Hp) (x : PV), Step G H G1 H1 ∧ Rep X.K G1 x v ∧ (match x with | .obj C1 fs => C1 = C ∧ P [.obj C1 fs] (fun _ => False) Q | _ => False)) I ⟨Gb, Hb, ρ, G, y, _, R, E, q, fun x v G1 H1 s1 r1 q1 => ⟨G1, x, s1, r1, q1⟩⟩) fun u s1 ⟨v, H1, I1, rx, G1, x, st, r1, q1⟩ => ?_)
  split at q1
  · obtain ⟨rfl, q1⟩ := q1
    cases r1 with
    | @obj _ a1 _ _ _ g1 f1 =>
      cases (show u = Value.ref a1 from rx)
      obtain ⟨od, J⟩ := inst_of I1 (st.gh _ _ g1)
      obtain ⟨m, hF⟩ := I1.fr
      exact PySem.W.ksp_neg hF I1.ok.mod.kin J hs hf (run_in F hr I1.env0 hb I1 (ws := [.ref a1]) (us := [.ref a1]) (.cons rfl .nil) (sp_in (X := X) st (.cons (.obj g1 f1) .nil) q1 kk))
  · exact q1.elim
/-- abs(x) -/
def rAbsO (K : PySem.W.Frag) (C : Addr) (P : PSpec) : List V → Hp → VK → Prop := fun xs H Q => ∃ a dx gs, xs = [.ref a] ∧ H a = some (.ins C dx gs) ∧ spP K P [.ref a] H Q E0
theorem call_absO (hs : PySem.W.findIn X.K (.ref C) "__abs__" = some (some (.ref f))) (hf : PySem.W.isFn X.K (.ref f) = true) (F : FnOk X.prog X.w X.K X.mg X.base (L2.CX X.prog X.w) k f fd ps (spP X.K P)) (hr : Room (k + 1) X.A) (hb : Binds X.K fd ps []) : CallR X (.builtin "abs") (rAbsO X.K C P) := by
  intro pins s σ H xs us Q I r h
  obtain ⟨a, dx, gs, rfl, ha, q⟩ := h
  obtain ⟨u, rfl, ru⟩ := vals1 r
  cases (show u = Value.ref a from ru)
  obtain ⟨od, J⟩ := inst_of I ha
  exact PySem.W.abs_K I.kIn J hs hf (run_in F hr.in1 I.env0.in1 hb I (ws := [.ref a]) (us := [.ref a]) (.cons rfl .nil) q)
def cAbsO (C : Addr) (P : PSpec) : Q1 := fun xs Q => match xs with
  | [.obj C1 fs] => C1 = C ∧ P [.obj C1 fs] (fun _ => False) Q
  | _ => False
theorem snd_absO {K : PySem.W.Frag} : SndC K (rAbsO K C P) (cAbsO C P) := by
  intro xs vs G H Q Qh hs r q k
  unfold cAbsO at q
  split at q
  · obtain ⟨rfl, q⟩ := q
    obtain ⟨v, rfl, h⟩ := rep1 r
    cases h with
    | obj h1 h2 => exact ⟨_, _, _, rfl, hs _ _ h1, G, _, fun _ => False, Q, hs, .cons (.obj h1 h2) .nil, q, fun x v G' H' s r q => k x v G' H' s r q, fun _ _ _ _ _ _ z => z.elim⟩
  · exact q.elim
theorem je_absO {e : Expr} {qa : QA} {p pos : Pos} (hs : PySem.W.findIn X.K (.ref C) "__abs__" = some (some (.ref f))) (hf : PySem.W.isFn X.K (.ref f) = true) (F : FnOk X.prog X.w X.K X.mg X.base (L2.CX X.prog X.w) k f fd ps (spP X.K P)) (hr : Room (k + 1) X.A) (hb : Binds X.K fd ps [])
    (hm : X.mg "abs" = none) (ha : JA X W [e] qa) (hg : Gl X "abs" := by rfl) (he : starEach [e] X.env = (false, eval e X.env) :: starEach [] X.env := by rfl) (hpl : (backTo pos (starEach [] X.env)).any (·.1) = false := by rfl) : JE X W (.Call (.Name "abs" p) [e] [] pos) (qCB (cAbsO C P) qa) :=
  je_cb (call_absO hs hf F hr hb) snd_absO hm (by decide +kernel) ha hg (by decide) (by decide) he hpl
/-- x == z, x an instance whose class has a def as __eq__; nf: which z are no instances of a class below -/
def NfR (K : PySem.W.Frag) (C : Addr) (nf : PV → Bool) : Prop := ∀ z, nf z = true → ∃ t, tyOfP z = some t ∧ (∀ C fs, z = .obj C fs → IsC K C) ∧ PySem.W.notFirst K C t = true
def qEqO (C : Addr) (nf : PV → Bool) (neg : Bool) (P : PSpec) (qa qb : QE) : QE := fun ρ y Q => qa ρ y fun x => qb ρ y fun z => match x with
  | .obj C1 fs => C1 = C ∧ nf z = true ∧ P [.obj C1 fs, z] (fun _ => False) fun r => match r with
    | .bl k => Q (.bl (neg ^^ k))
    | _ => False
  | _ => False
theorem eq_core {nf : PV → Bool} (hnf : NfR X.K C nf) (hs : PySem.W.findIn X.K (.ref C) "__eq__" = some (some (.ref f))) (hf : PySem.W.isFn X.K (.ref f) = true) (F : FnOk X.prog X.w X.K X.mg X.base (L2.CX X.prog X.w) k f fd ps (spP X.K P)) (hr : Room (k + 1) X.A) (hb : Binds X.K fd ps [])
    {pins : List (Addr × Obj)} {σ : L2.St} {s2 : Shared} {H G : Hp} {x z : V} {v u : Value} {Q : PV → Prop} {Qh : VK} {H2 : Hp} (I2 : Inv X pins σ H2 s2) (rx : RelV x v) (rz : RelV z u) (kk : ∀ x v G' H', Step G H G' H' → Rep X.K G' x v → Q x → Qh v H')
    (h : ∃ (G2 : Hp) (x' z' : PV), Step G H G2 H2 ∧ Rep X.K G2 x' x ∧ Rep X.K G2 z' z ∧ (match x' with | .obj C1 fs => C1 = C ∧ nf z' = true ∧ P [.obj C1 fs, z'] (fun _ => False) (fun r => match r with | .bl k => Q (.bl (false ^^ k)) | _ => False) | _ => False)) :
    wpAny (model X.prog X.w) X.A (compareOp .Eq v u) (EP X pins σ Qh) X.xe s2 := by
  obtain ⟨G2, x', z', st, r1, r2, q2⟩ := h
  split at q2
  · obtain ⟨rfl, hz, q2⟩ := q2
    obtain ⟨t, e1, e2, e3⟩ := hnf z' hz
    obtain ⟨Pz, Z, pz, _⟩ := kit_of I2 rz (tyx_of st.gh r2 e1 e2)
    cases r1 with
    | @obj _ a1 _ _ _ g1 f1 =>
      cases (show v = Value.ref a1 from rx)
      obtain ⟨od, J⟩ := inst_of I2 (st.gh _ _ g1)
      obtain ⟨m, hF⟩ := I2.fr
      refine PySem.W.cmp_K (op := .Eq) (tb := t) hr.units0 hF I2.ok.mod.kin J (Z.ty (model X.prog X.w) s2.heap I2.kIn pz) e3 hs hf ?_
      refine wpAny_mono (run_in (us := [.ref a1, u]) (ws := [.ref a1, z]) F (hr.mono (Nat.le_succ _)) I2.env0 hb I2 (.cons rfl (.cons rz .nil)) (sp_in (X := X) (Qh := fun v' H' => ∃ b : Bool, v' = .bl b ∧ Qh (.bl b) H') st (.cons (.obj g1 f1) (.cons r2 .nil)) q2 fun x v G' H' s r q => ?_)) (fun w s' z => ?_) fun _ _ x => x
      · split at q
        · cases r
          refine ⟨_, rfl, kk _ _ G' H' s (.bl _) (by simpa using q)⟩
        · exact q.elim
      · obtain ⟨z', H', I', rz, b, rfl, qz⟩ := z
        exact SlX.cmpback rz ⟨_, H', I', rz, qz⟩
  · exact q2.elim
theorem ne_core {nf : PV → Bool} (hnf : NfR X.K C nf) (hne : PySem.W.findIn X.K (.ref C) "__ne__" = some (some (.builtin "object.__ne__"))) (hmr : PySem.W.mroIn X.K C (.type "object") = some true) (hs : PySem.W.findIn X.K (.ref C) "__eq__" = some (some (.ref f))) (hf : PySem.W.isFn X.K (.ref f) = true) (F : FnOk X.prog X.w X.K X.mg X.base (L2.CX X.prog X.w) k f fd ps (spP X.K P)) (hr : Room (k + 1) X.A) (hb : Binds X.K fd ps [])
    {pins : List (Addr × Obj)} {σ : L2.St} {s2 : Shared} {H G : Hp} {x z : V} {v u : Value} {Q : PV → Prop} {Qh : VK} {H2 : Hp} (I2 : Inv X pins σ H2 s2) (rx : RelV x v) (rz : RelV z u) (kk : ∀ x v G' H', Step G H G' H' → Rep X.K G' x v → Q x → Qh v H')
    (h : ∃ (G2 : Hp) (x' z' : PV), Step G H G2 H2 ∧ Rep X.K G2 x' x ∧ Rep X.K G2 z' z ∧ (match x' with | .obj C1 fs => C1 = C ∧ nf z' = true ∧ P [.obj C1 fs, z'] (fun _ => False) (fun r => match r with | .bl k => Q (.bl (true ^^ k)) | _ => False) | _ => False)) :
    wpAny (model X.prog X.w) X.A (compareOp .NotEq v u) (EP X pins σ Qh) X.xe s2 := by
  obtain ⟨G2, x', z', st, r1, r2, q2⟩ := h
  split at q2
  · obtain ⟨rfl, hz, q2⟩ := q2
    obtain ⟨t, e1, e2, e3⟩ := hnf z' hz
    obtain ⟨Pz, Z, pz, _⟩ := kit_of I2 rz (tyx_of st.gh r2 e1 e2)
    cases r1 with
    | @obj _ a1 _ _ _ g1 f1 =>
      cases (show v = Value.ref a1 from rx)
      obtain ⟨od, J⟩ := inst_of I2 (st.gh _ _ g1)
      obtain ⟨m, hF⟩ := I2.fr
      refine PySem.W.ne_K (tb := t) (by have := hr.units; omega) hF I2.ok.mod.kin J (Z.ty (model X.prog X.w) s2.heap I2.kIn pz) e3 hne hmr hs hf ?_
      refine wpAny_mono (run_in (us := [.ref a1, u]) (ws := [.ref a1, z]) F hr.in1 I2.env0.in1 hb I2 (.cons rfl (.cons rz .nil)) (sp_in (X := X) (Qh := fun v' H' => ∃ b : Bool, v' = .bl b ∧ Qh (.bl (!b)) H') st (.cons (.obj g1 f1) (.cons r2 .nil)) q2 fun x v G' H' s r q => ?_)) (fun w s' z => ?_) fun _ _ x => x
      · split at q
        · cases r
          refine ⟨_, rfl, kk _ _ G' H' s (.bl _) (by simpa using q)⟩
        · exact q.elim
      · obtain ⟨z', H', I', rz, b, rfl, qz⟩ := z
        cases (show w = Value.bool b from rz)
        exact ⟨b, rfl, .bl (!b), H', I', rfl, qz⟩
  · exact q2.elim
theorem je_eqO {nf : PV → Bool} (hnf : NfR X.K C nf) (hs : PySem.W.findIn X.K (.ref C) "__eq__" = some (some (.ref f))) (hf : PySem.W.isFn X.K (.ref f) = true) (F : FnOk X.prog X.w X.K X.mg X.base (L2.CX X.prog X.w) k f fd ps (spP X.K P)) (hr : Room (k + 1) X.A) (hb : Binds X.K fd ps [])
    (h1 : JE X W a qa) (h2 : JE X W b qb) : JE X W (.Compare a [.Eq] [b] pos) (qEqO C nf false P qa qb) := by
  refine ⟨fun pins s σ H Qh I ⟨Gb, Hb, ρ, G, y, Q, R, E, q, kk⟩ => ?_⟩
  exact wpAny_Compare1 (binT h1 h2 I (snd_two R E q) fun v u s2 x z H2 I2 rx rz hh => eq_core hnf hs hf F hr hb I2 rx rz kk hh) (nomark _)
theorem je_neO {nf : PV → Bool} (hnf : NfR X.K C nf) (hne : PySem.W.findIn X.K (.ref C) "__ne__" = some (some (.builtin "object.__ne__"))) (hmr : PySem.W.mroIn X.K C (.type "object") = some true) (hs : PySem.W.findIn X.K (.ref C) "__eq__" = some (some (.ref f))) (hf : PySem.W.isFn X.K (.ref f) = true) (F : FnOk X.prog X.w X.K X.mg X.base (L2.CX X.prog X.w) k f fd ps (spP X.K P)) (hr : Room (k + 1) X.A) (hb : Binds X.K fd ps [])
    (h1 : JE X W a qa) (h2 : JE X W b qb) : JE X W (.Compare a [.NotEq] [b] pos) (qEqO C nf true P qa qb) := by
  refine ⟨fun pins s σ H Qh I ⟨Gb, Hb, ρ, G, y, Q, R, E, q, kk⟩ => ?_⟩
  exact wpAny_Compare1 (binT h1 h2 I (snd_two R E q) fun v u s2 x z H2 I2 rx rz hh => ne_core hnf hne hmr hs hf F hr hb I2 rx rz kk hh) (nomark _)
end
end QL

set_option maxHeartbeats 2000000
/-! ### isinstance of an exception that has its own dict -/
namespace PySem.W
open PySem PySem.Spec PySem.Calls PyProof.Rows
section
variable {prog : Program} {w : World} {A : Around} {E : Value → Shared → Prop} {s : Shared} {K : Frag} {x D : Addr} {ox od : Obj}
theorem kin_classD {Q : Option Value → Shared → Prop} (hga : findIn K (.ref D) "__getattribute__" = some (some (.builtin "BaseException.__getattribute__"))) (hgt : findIn K (.ref D) "__getattr__" = some none) (hsub : subIn K (.ref D) (.type "BaseException") = some true)
    (hdct : hasDictIn K D = true) (ha : findIn K (.ref D) "__class__" = some (some (.builtin "object.__class__")))
    (hn : specialIn K (.builtin "object.__class__") "__get__" = some (some (.builtin "getset_descriptor.__get__"))) (htk : takesIn K (.builtin "object.__class__") = some true) (hm : mroIn K D (.type "object") = some true)
    (X : K.In s.heap) (I : InstAt s.heap x ox D (some od)) (h : Q (some (.ref D)) { s with toks := s.toks + 1 }) : wpAny (model prog w) A (getAttr? (.ref x) "__class__") Q E s := by
  have hf : findObj K D (some od) "__class__" = some (.bind (.builtin "getset_descriptor.__get__") (.builtin "object.__class__")) := findObj_data (by obtain ⟨cd, hc, _⟩ := any_some hdct; rw [hc]; rfl) ha hn htk
  obtain ⟨hp, g, d, t, os⟩ := s
  have L0 := I.type (M := model prog w)
  have L1 := looks_findIn (M := model prog w) X hga
  have L2 := looks_findIn (M := model prog w) X hgt
  have L3 := looks_find (M := model prog w) X I hf
  have sub : Looks (model prog w) hp (isInstance (.ref x) (.type "BaseException")) true := L0.andThen (looks_subIn X hsub)
  have hx0 : (false && onTheHeap (Value.builtin "BaseException.__getattribute__")) = false := rfl
  have hx2 : (Value.builtin "BaseException.__getattribute__" == Value.builtin "object.__getattribute__") = false := by decide +kernel
  have hx1 : (onTheHeap (Value.ref D) && Value.builtin "BaseException.__getattribute__" == Value.builtin "object.__getattribute__") = false := by rw [hx2]; rfl
  unfold getAttr? getAttrBy? getAttrBy
  refine wpAny_bind (wpAny_mkText (wpAny_bind (wpAny_attempt (wpAny_holding (wpAny_bind (L0.at (wpAny_bind (L1.at ?_))))))))
  show wpAny _ _ (if (onTheHeap (Value.ref D) && Value.builtin "BaseException.__getattribute__" == Value.builtin "object.__getattribute__") = true then _ else _) _ _ _
  rw [hx1, if_neg Bool.false_ne_true]
  unfold getAttrByItsOwn hookBefore
  refine wpAny_bind ?_
  rw [if_pos (show onTheHeap (Value.ref D) = true from rfl)]
  refine L2.at ?_
  refine wpAny_bind (wpAny_attempt (wpAny_holding ?_))
  unfold callGetattribute
  rw [hx0, if_neg Bool.false_ne_true]
  unfold boundAndCalled
  rw [PySem.F.excAttr_ValueError.ga.bind (.ref x)]
  refine wpAny_bind (wpAny_pure ?_)
  show wpAny _ _ (call (.builtin "BaseException.__getattribute__") [.ref x, .str "__class__" t]) _ _ _
  refine wpAny_call (codeAny_call_builtin PySem.F.excAttr_ValueError.ga.plain PySem.F.entry_bexc_ga ?_)
  refine @check_slot (model prog w) _ _ ⟨hp, g, d, t + 1, os⟩ "BaseException.__getattribute__" "BaseException" "__getattribute__" (.ref x) [.str "__class__" t] [] _ (by decide +kernel) (by decide +kernel) sub (PySem.F.args_bexc_ga (.ref x) (.str "__class__" t)) ?_
  unfold Builtin.«object.__getattribute__»
  refine wpAny_bind (wpAny_of_eq (a := ((Value.ref x : Value), [Value.str "__class__" t])) (by first | rfl | (simp only [slotArgs]; rfl)) ?_)
  refine wpAny_bind (wpAny_pure (wpAny_bind (L0.at (wpAny_bind (L3.at ?_)))))
  show wpAny _ _ (holding [Value.builtin "object.__class__"] (call (.builtin "getset_descriptor.__get__") [.builtin "object.__class__", .ref x, .ref D]) >>= ret) _ _ _
  refine wpAny_bind (wpAny_holding (wpAny_call (class_get (s := ⟨hp, g, d, t + 1, os⟩) (ox := ox) (od := some od) X I hm ?_)))
  refine wpAny_pure ?_
  show wpAny _ _ (handedOut (.ref D)) _ _ _
  rw [handedOut_of (v := .ref D) rfl]
  first
    | exact wpAny_pure (wpAny_pure h)
    | exact wpAny_pure h
    | exact wpAny_pure (wpAny_bind (wpAny_pure (wpAny_pure h)))
theorem kitx_excD (hga : findIn K (.ref D) "__getattribute__" = some (some (.builtin "BaseException.__getattribute__"))) (hgt : findIn K (.ref D) "__getattr__" = some none) (hsub : subIn K (.ref D) (.type "BaseException") = some true) (hdct : hasDictIn K D = true) (ha : findIn K (.ref D) "__class__" = some (some (.builtin "object.__class__")))
    (hn : specialIn K (.builtin "object.__class__") "__get__" = some (some (.builtin "getset_descriptor.__get__"))) (htk : takesIn K (.builtin "object.__class__") = some true) (hm : mroIn K D (.type "object") = some true) :
    KitX K (.ref x) (.ref D) (fun h => InstAt h x ox D (some od)) where
  ty := fun _ _ _ I => I.type
  it := fun _ _ X _ => by
    obtain ⟨cdD, hcD, _⟩ := any_some hdct
    unfold clsIn at hcD
    split at hcD
    · rename_i c' d' cd' sl' ho
      intro A' Q' E' s' k q
      unfold isType loadHead
      exact wpAny_bind (wpAny_loadPart (k _ _ (X _ _ ho)) (wpAny_pure q))
    · cases hcD
  ne := fun h tp dd its n sl X htp => by
    obtain ⟨cdD, hcD, _⟩ := any_some hdct
    refine Bool.eq_false_iff.mpr fun q => ?_
    have e : D = tp := Value.ref.inj (beq_iff_eq.mp q)
    subst e
    unfold clsIn at hcD
    split at hcD
    · rename_i c' d' cd' sl' ho
      have z := (X _ _ ho).symm.trans htp
      cases z
    · cases hcD
  ca := fun X I k => kin_classD hga hgt hsub hdct ha hn htk hm X I k
end
end PySem.W
namespace QL
open PySem PySem.Spec PyProof.Rows L2

/-! ### exceptions: made and raised -/
/-- of an exception's __init__: the fields of the values given -/
def spX (C : Addr) (n : Nat) (Fv : List V → List (Str × V)) : Sp := fun vs H Q _ => ∃ (a : Addr) (ws : List V), vs = .ref a :: ws ∧ ws.length = n ∧ H a = some (exo a C none) ∧
  ∀ (d : Addr) (H' : Hp), H d = none → d ≠ a → H' a = some (exo a C (some d)) → H' d = some (exd d (Fv ws)) → (∀ b, b ≠ a → b ≠ d → H' b = H b) → Q .non H'
/-- an expression that makes an exception -/
def tXJ (K : PySem.W.Frag) (W : WX) (C : Addr) (n : Nat) (Fp : List PV → List (Str × PV)) (q : QA) : L2.St → Hp → XK → Prop := fun σ H Qx => ∃ (Gb Hb : Hp) (ρ : PSt) (G : Hp) (y : Y) (Q : PX → Prop), RelS K Gb Hb ρ σ G H ∧ ExOk K W σ G H y ∧ (q ρ y fun xs => xs.length = n ∧ Q ⟨C, Fp xs⟩) ∧
  ∀ p d G' H', Step G H G' H' → RepX K G' H' p d → Q p → Qx (.ref p.C) (some d) H'
/-- the fields by values are those by pure values -/
def FldR (K : PySem.W.Frag) (Fv : List V → List (Str × V)) (Fp : List PV → List (Str × PV)) : Prop := ∀ G xs vs, Reps K G xs vs → RepF K G (Fp xs) (Fv vs)
section
variable {X : Cx} {W : WX} {x : Str} {C fI : Addr} {k n : Nat} {fd : FuncData} {ps : List Str} {e : Expr} {es : List Expr} {qa : QA} {p pos pos2 : Pos} {Fv : List V → List (Str × V)} {Fp : List PV → List (Str × PV)}
theorem mk_call {pins : List (Addr × Obj)} {σ : L2.St} {H1 : Hp} {s1 : Shared} {Qx : XK} {us : List Value} {vs : List V} (T : OexC X.K C) (iC : PySem.W.findIn X.K (.ref C) "__init__" = some (some (.ref fI))) (tI : PySem.W.typeIn X.K (.ref fI) = some (.type "function"))
    (F1 : FnOk X.prog X.w X.K X.mg X.base (L2.CX X.prog X.w) k fI fd ps (spX C n Fv)) (hr : Room (k + 1) X.A) (hb : Binds X.K fd ps []) (I1 : Inv X pins σ H1 s1) (r1 : Vals vs us) (hn : vs.length = n) (hz : vs.length ≤ 1000)
    (q1 : ∀ (a d : Addr) (H' : Hp), H1 a = none → H1 d = none → d ≠ a → H' d = some (.xd (Fv vs)) → (∀ b, b ≠ a → b ≠ d → H' b = H1 b) → H' a = none → Qx (.ref C) (some d) H') :
    wpAny (model X.prog X.w) X.A (call (.ref C) us) (MkP X pins σ Qx) X.xe s1 := by
  obtain ⟨nm, q, N, bs, bm, sn, sub, ab, col, dd, k0, k1, k2, k3, k5, hC, hbm⟩ := T.cls
  obtain ⟨hp, g, dr, tk, os⟩ := s1
  have hsz : hp.objs.size ≤ hp.objs.size + 1 := Nat.le_succ _
  have hn1 : H1 (hp.objs.size + 1) = none := I1.hok.fresh hsz
  have hq : spX C n Fv (.ref (hp.objs.size + 1) :: vs) (upd H1 (hp.objs.size + 1) (exo (hp.objs.size + 1) C none)) (fun v H2 => v = .non ∧ ∃ (d : Addr) (fs : List (Str × V)), H2 (hp.objs.size + 1) = some (exo (hp.objs.size + 1) C (some d)) ∧ H2 d = some (exd d fs) ∧ H1 d = none ∧ Qx (.ref C) (some d) (upd (del H2 (hp.objs.size + 1)) d (.xd fs))) (fun _ _ _ => False) := by
    refine ⟨_, vs, rfl, hn, upd_same, fun d H' hd hne ha hd' hk => ⟨rfl, d, Fv vs, ha, hd', ?_, ?_⟩⟩
    · rw [upd_ne hne] at hd
      exact hd
    · rw [upd_ne hne] at hd
      refine q1 _ d _ hn1 hd hne upd_same (fun b h1 h2 => ?_) ?_
      · rw [upd_ne h2, del_ne h1, hk b h1 h2, upd_ne h1]
      · rw [upd_ne (Ne.symm hne)]
        exact del_same
  have kk : ∀ b o, hp.get? b = some o → ((hp.push (PySem.W.kdv_tup us)).push (PySem.HandSPX.excO C hp.objs.size)).get? b = some o := fun b o e => Heap.get?_push_of_some _ (Heap.get?_push_of_some _ e)
  have hget : ((hp.push (PySem.W.kdv_tup us)).push (PySem.HandSPX.excO C hp.objs.size)).get? (hp.objs.size + 1) = some (PySem.HandSPX.excO C hp.objs.size) := by heap_get
  have I2 : Inv X pins σ (upd H1 (hp.objs.size + 1) (exo (hp.objs.size + 1) C none)) ⟨(hp.push (PySem.W.kdv_tup us)).push (PySem.HandSPX.excO C hp.objs.size), g, dr, tk, os⟩ :=
    I1.laid (t' := tk) (a := hp.objs.size + 1) (o := exo (hp.objs.size + 1) C none) (h' := (hp.push (PySem.W.kdv_tup us)).push (PySem.HandSPX.excO C hp.objs.size)) kk hsz (exo_ok hget)
  have r2 : Vals (V.ref (hp.objs.size + 1) :: vs) (Value.ref (hp.objs.size + 1) :: us) := .cons rfl r1
  have hl : (Value.ref (hp.objs.size + 1) :: us).length = ps.length := by
    have e := r2.length
    rw [F1.len _ _ _ _ hq] at e
    exact e.symm
  have hus : us.length ≤ sizeLine := by
    rw [← Paired.length r1, sizeLine_eq]
    omega
  have bb := hb ⟨(hp.push (PySem.W.kdv_tup us)).push (PySem.HandSPX.excO C hp.objs.size), g, dr, tk, os⟩ (Value.ref (hp.objs.size + 1) :: us) I2.kIn (by rw [List.append_nil]; exact hl)
  rw [List.append_nil] at bb
  refine wpAny_call (PySem.HandSPX.call_own F.excBase_ValueError (fun Y => PySem.HandSPX.refsVE_contains Y bm hbm) (I1.kIn _ _ hC) (PySem.W.looks_findIn I1.kIn iC) (fun self => PySem.W.bind_fn I1.kIn self tI) hus
    (codeAny_mono (F1.run _ X.stack _ _ ⟨Value.ref (hp.objs.size + 1) :: us, []⟩ (Value.ref (hp.objs.size + 1) :: us) _ _ (fun _ _ _ => False) (hr.make C us []) (I2.env0.make C us []) bb r2 hq) fun r s' hq' => ?_))
  cases r with
  | error er =>
    obtain ⟨_, _, _, _, _, _, _, _, _, _, _, _, z⟩ := hq'
    exact z.elim
  | ok fl =>
    cases fl with
    | ret u =>
      obtain ⟨v, H2, os2, bare2, un2, hok2, rv, ev, d, fs, ea, ed, hd1, q2⟩ := hq'
      subst ev
      obtain ⟨h2, g2, d2, t2, os'⟩ := s'
      exact ⟨rv, mk_end (raises_own T.exC T.tyC) I1 hsz kk un2 hok2 os2 bare2 ea ed hd1 q2⟩
    | next => exact False.elim hq'
    | brk => exact False.elim hq'
    | cont => exact False.elim hq'
theorem mk_fin {σ : L2.St} {G H G1 H1 : Hp} {Q : PX → Prop} {Qx : XK} {xs : List PV} {vs : List V} (hF : FldR X.K Fv Fp) (s1 : Step G H G1 H1) (r1 : Reps X.K G1 xs vs) (q : Q ⟨C, Fp xs⟩) (kk : ∀ p d G' H', Step G H G' H' → RepX X.K G' H' p d → Q p → Qx (.ref p.C) (some d) H')
    (a d : Addr) (H' : Hp) (ha : H1 a = none) (hd : H1 d = none) (hne : d ≠ a) (e : H' d = some (.xd (Fv vs))) (k : ∀ b, b ≠ a → b ≠ d → H' b = H1 b) : Qx (.ref C) (some d) H' := by
  have hh : Same H1 H' := fun b o z => by
    rw [k b (ne_of_none z ha) (ne_of_none z hd)]
    exact z
  exact kk ⟨C, Fp xs⟩ d G1 H' (s1.trans ⟨hh, Same.refl _, fun b o z => hh _ _ (s1.gh _ _ z), fun b o z n => by rw [z] at n; cases n⟩) ⟨Fv vs, e, hF G1 xs vs r1⟩ q
theorem pmk_x (T : OexC X.K C) (iC : PySem.W.findIn X.K (.ref C) "__init__" = some (some (.ref fI))) (tI : PySem.W.typeIn X.K (.ref fI) = some (.type "function"))
    (F1 : FnOk X.prog X.w X.K X.mg X.base (L2.CX X.prog X.w) k fI fd ps (spX C n Fv)) (hF : FldR X.K Fv Fp) (hr : Room (k + 1) X.A) (hb : Binds X.K fd ps []) (hn : n ≤ 1000) (hm : X.mg x = some (.ref C)) (ha : JA X W (e :: es) qa) (hg : Gl X x := by rfl)
    (hdb : (x == ("__debug__" : Str)) = false := by decide) (he : starEach (e :: es) X.env = (false, eval e X.env) :: starEach es X.env := by rfl) (hpl : (backTo pos (starEach es X.env)).any (·.1) = false := by rfl) :
    PMk X (.Call (.Name x p) (e :: es) [] pos) (tXJ X.K W C n Fp qa) := by
  intro pins s σ H Qx I ⟨Gb, Hb, ρ, G, y, Q, R, E, q, kk⟩
  refine wpAny_Call_Name_kw (ld_glob I hg hm ?_ hdb)
  refine PySem.W.callWith_K (h₀ := X.base) I.ok.mod.kin T.kC (thn (ha.run pos pins s σ H (fun vs H1 => ∃ (G1 : Hp) (xs : List PV), Step G H G1 H1 ∧ Reps X.K G1 xs vs ∧ xs.length = n ∧ Q ⟨C, Fp xs⟩) I ⟨Gb, Hb, ρ, G, y, _, R, E, q, fun xs vs G1 H1 s1 r1 q1 => ⟨G1, xs, s1, r1, q1.1, q1.2⟩⟩) fun us s1 ⟨vs, H1, I1, r1, G1, xs, st, rr, hl, q1⟩ => ⟨I1.kIn, ?_⟩) he hpl
  have hv : vs.length = n := rr.length.symm.trans hl
  exact mk_call T iC tI F1 hr hb I1 r1 hv (by omega) fun a d H' ha hd hne e k _ => mk_fin (X := X) (σ := σ) hF st rr q1 kk a d H' ha hd hne e k
theorem pmk_x0 (T : OexC X.K C) (iC : PySem.W.findIn X.K (.ref C) "__init__" = some (some (.ref fI))) (tI : PySem.W.typeIn X.K (.ref fI) = some (.type "function"))
    (F1 : FnOk X.prog X.w X.K X.mg X.base (L2.CX X.prog X.w) k fI fd ps (spX C 0 Fv)) (hF : FldR X.K Fv Fp) (hr : Room (k + 1) X.A) (hb : Binds X.K fd ps []) (hm : X.mg x = some (.ref C)) (hg : Gl X x := by rfl) (hdb : (x == ("__debug__" : Str)) = false := by decide) :
    PMk X (.Call (.Name x p) [] [] pos) (tXJ X.K W C 0 Fp qNil) := by
  intro pins s σ H Qx I ⟨Gb, Hb, ρ, G, y, Q, R, E, q, kk⟩
  refine wpAny_Call_Name_kw (ld_glob I hg hm ?_ hdb)
  refine PySem.W.callWith_K0 I.kIn T.kC ?_
  exact mk_call T iC tI F1 hr hb I (vs := []) .nil rfl (by decide) fun a d H' ha hd hne e k _ => mk_fin (X := X) (σ := σ) hF (.refl R.gh) .nil q.2 kk a d H' ha hd hne e k
def qRaise (C : Addr) (n : Nat) (Fp : List PV → List (Str × PV)) (qa : QA) : QS := fun D ρ => qa ρ (D.ex ρ) fun xs => xs.length = n ∧ D.ex ρ ⟨C, Fp xs⟩
theorem js_raise {ee : Expr} (hc : X.calm = true) (tk : Takes X W) (h : PMk X ee (tXJ X.K W C n Fp qa)) : JS X W (.Raise (some ee) none pos) (qRaise C n Fp qa) := by
  refine PS.imp (ps_raise hc tk h) fun Dh σ H ⟨Gb, Hb, ρ, G, D, R, M, q⟩ => ?_
  exact ⟨Gb, Hb, ρ, G, D.ex ρ, D.ex ρ, R, M.exok R, q, fun p d G' H' s r hp => M.ex ρ σ G' H' p d (R.mono s) r hp⟩
end

theorem one_c {α : Type} {C c : Addr} {b0 b : α} (h : (if C = c then some b0 else none) = some b) : C = c ∧ b0 = b := by
  split at h
  · exact ⟨‹_›, Option.some.inj h⟩
  · cases h
/-! ### try: .. except X as e: .. -/
def tryD (r : Addr → Option Bool) (i : Nat) (qs : Addr → Value → Option Addr → QS) (D : QD) : QD := { D with ex := fun ρ' p => ∃ b, r p.C = some b ∧
  (b = true → ∀ a d, qs a (.ref p.C) (some d) { nx := fun ρ2 => D.nx (ρ2.set i none), rt := D.rt, bk := fun ρ2 => D.bk (ρ2.set i none), ct := fun ρ2 => D.ct (ρ2.set i none), ex := fun _ _ => False } (ρ'.set i (some (.exc a d p.C p.fs)))) ∧ (b = false → D.ex ρ' p) }
def qTry (r : Addr → Option Bool) (i : Nat) (qb : QS) (qs : Addr → Value → Option Addr → QS) : QS := fun D ρ => qb (tryD r i qs D) ρ
theorem RelS.setExc {K : PySem.W.Frag} {Gb Hb G H : Hp} {ρ : PSt} {σ : L2.St} (r : RelS K Gb Hb ρ σ G H) (i : Nat) {a d C : Addr} {fs : List (Str × PV)} (h : RepX K G H ⟨C, fs⟩ d) : RelS K Gb Hb (ρ.set i (some (.exc a d C fs))) (σ.set i (some (.ref a))) G H where
  step := r.step
  len := by simp [r.len]
  val := fun j y e => by
    rcases set_get e with ⟨rfl, e, hl⟩ | ⟨n, e⟩
    · cases e
    · obtain ⟨u, h1, h2⟩ := r.val j y e
      exact ⟨u, by rw [List.getElem?_set_ne n]; exact h1, h2⟩
  own := fun j xs e => by
    rcases set_get e with ⟨rfl, e, hl⟩ | ⟨n, e⟩
    · cases e
    · obtain ⟨a, vs, h1, h2⟩ := r.own j xs e
      exact ⟨a, vs, by rw [List.getElem?_set_ne n]; exact h1, h2⟩
  ins := fun j a C fs e => by
    rcases set_get e with ⟨rfl, e, hl⟩ | ⟨n, e⟩
    · cases e
    · obtain ⟨dx, gs, h1, h2⟩ := r.ins j a C fs e
      exact ⟨dx, gs, by rw [List.getElem?_set_ne n]; exact h1, h2⟩
  exc := fun j a d C fs e => by
    rcases set_get e with ⟨rfl, e, hl⟩ | ⟨n, e⟩
    · cases e
      exact ⟨List.getElem?_set_self (by rw [← r.len]; exact hl), h⟩
    · obtain ⟨h1, h2⟩ := r.exc j a d C fs e
      exact ⟨by rw [List.getElem?_set_ne n]; exact h1, h2⟩
  one := fun j k a C b D fs gs e1 e2 => by
    rcases set_get e1 with ⟨rfl, e, hl⟩ | ⟨n1, e1⟩
    · cases e
    · rcases set_get e2 with ⟨rfl, e, hl⟩ | ⟨n2, e2⟩
      · cases e
      · exact r.one j k _ C _ D fs gs e1 e2
  sep := fun j k xs ys a e1 e2 s1 s2 => by
    rcases set_get e1 with ⟨rfl, e, hl⟩ | ⟨n1, e1⟩
    · cases e
    · rcases set_get e2 with ⟨rfl, e, hl⟩ | ⟨n2, e2⟩
      · cases e
      · rw [List.getElem?_set_ne n1] at s1
        rw [List.getElem?_set_ne n2] at s2
        exact r.sep j k xs ys a e1 e2 s1 s2
section
variable {X : Cx} {W : WX} {x n : Str} {c : Value} {i : Nat} {body suite : List Stmt} {b₀ : Stmt} {np pos pos' : Pos} {qb : QS} {qs : Addr → Value → Option Addr → QS}
theorem js_try (i : Nat) {r : Addr → Option Bool} (hN : X.N.Nodup) (hc : Names X x c) (he : ∀ C b, r C = some b → PySem.W.exmOne X.K (.ref C) c = some b) (tk : Takes X W)
    (hb : ∀ (W' : WX) (pn : List (Addr × Obj)) (xe : Value → Shared → Prop), Takes (X.tr pn xe) W' → PassesOwn (model X.prog X.w) X.A X.env xe → JSs (X.tr pn xe) W' body qb)
    (hsu : ∀ (a : Addr) (oe : Obj) (cls : Value) (d : Option Addr) (pn : List (Addr × Obj)), Zc cls d oe → (∃ vs, oe.data = .fields vs) → JSs (X.suite a ((a, oe) :: pn)) (fun _ _ _ _ => False) (b₀ :: suite) (qs a cls d))
    (hs : X.stack = X.env :: X.outer := by rfl) (hf : X.env.frame = some X.env.locals := by rfl) (hi : X.N[i]? = some n := by rfl) (hln : X.env.kindOf n = some .local := by rfl) :
    JS X W (.Try body [.ExceptHandler (some (.Name x np)) (some n) (b₀ :: suite) pos'] [] [] pos) (qTry r i qb qs) := by
  refine PS.imp (ps_try_as (tb := fun W' => tSJ X.K W' qb) (ts := fun a cls d => tSJ X.K (fun _ _ _ _ => False) (qs a cls d)) (Wout := W) hs hf hN hi hln hc tk hb hsu) fun Dh σ H ⟨Gb, Hb, ρ, G, D, R, M, q⟩ => ?_
  refine ⟨Gb, Hb, ρ, G, tryD r i qs D, R, ⟨M.nx, M.rt, M.bk, M.ct, fun ρ2 σ2 G2 H2 p d R2 r2 ⟨b, e1, h1, h2⟩ => ⟨b, he _ _ e1, fun hb a ha => ?_, fun hb => M.ex ρ2 σ2 G2 H2 p d R2 r2 (h2 hb)⟩⟩, q⟩
  refine ⟨Gb, Hb, _, G2, _, R2.setExc i r2, ?_, h1 hb a d⟩
  exact ⟨fun ρ3 σ3 G3 H3 R3 q3 => M.nx _ _ G3 H3 (R3.drop i none) q3, M.rt, fun ρ3 σ3 G3 H3 R3 q3 => M.bk _ _ G3 H3 (R3.drop i none) q3, fun ρ3 σ3 G3 H3 R3 q3 => M.ct _ _ G3 H3 (R3.drop i none) q3, fun _ _ _ _ _ _ _ _ z => z.elim⟩
end

/-! ### the exception in the suite: its fields, isinstance -/
def qXf (a : Addr) (cls : Value) (d : Option Addr) (i : Nat) (ok : Addr → Bool) (f : Str) : QE := fun ρ _ Q => match ρ[i]? with
  | some (some (.exc a' d' C fs)) => a' = a ∧ cls = .ref C ∧ d = some d' ∧ ok C = true ∧ ∃ u, fs.lookup f = some u ∧ Q u
  | _ => False
def qXi (a : Addr) (cls : Value) (d : Option Addr) (i : Nat) (r : Addr → Option Bool) : QE := fun ρ _ Q => match ρ[i]? with
  | some (some (.exc a' d' C fs)) => a' = a ∧ cls = .ref C ∧ d = some d' ∧ (match r C with
    | some b => Q (.bl b)
    | none => False)
  | _ => False
section
variable {X : Cx} {W : WX} {a : Addr} {oe : Obj} {cls : Value} {d : Option Addr} {pn : List (Addr × Obj)} {x f cn : Str} {p p2 p3 pos : Pos}
/-- CF: the classes whose field f is read off the own dict -/
theorem je_xf (i : Nat) {ok : Addr → Bool} (T : ∀ C, ok C = true → XfC X.K C ∧ PySem.W.findIn X.K (.ref C) f = some none) (hz : Zc cls d oe) (hf : ∃ vs, oe.data = .fields vs) (hv : PE (X.suite a ((a, oe) :: pn)) (.Name x p) (tVar i) := by exact pv _)
    (hb : attributeBase (.Name x p) f (X.suite a ((a, oe) :: pn)).env (eval (.Name x p) (X.suite a ((a, oe) :: pn)).env) = eval (.Name x p) (X.suite a ((a, oe) :: pn)).env := by rfl) : JE (X.suite a ((a, oe) :: pn)) W (.Attribute (.Name x p) f pos) (qXf a cls d i ok f) := by
  by_cases hC : ∃ C, cls = .ref C ∧ ok C = true
  · obtain ⟨C, rfl, hok⟩ := hC
    obtain ⟨T1, T2⟩ := T C hok
    refine PE.imp (pe_xf T1 T2 hz hf hv hb) fun σ H Qh ⟨Gb, Hb, ρ, G, y, Q, R, E, q, k⟩ => ?_
    unfold qXf at q
    split at q
    · rename_i a' d' C' fs ex
      obtain ⟨rfl, e1, e2, _, u, hu, q⟩ := q
      cases e1
      obtain ⟨h1, gs, h2, h3⟩ := R.exc i _ _ _ _ ex
      obtain ⟨v, h4, h5⟩ := h3.look hu
      exact ⟨.ref a', h1, rfl, rfl, d', gs, v, e2, h2, h4, k _ _ G H (.refl R.gh) h5 q⟩
    · exact q.elim
  · refine ⟨fun pins s σ H Qh I ⟨Gb, Hb, ρ, G, y, Q, R, E, q, k⟩ => ?_⟩
    unfold qXf at q
    split at q
    · exact absurd ⟨_, q.2.1, q.2.2.2.1⟩ hC
    · exact q.elim
def rIsD (K : PySem.W.Frag) (a : Addr) (cls : Value) (d : Option Addr) (cv : Value) : List V → Hp → VK → Prop := fun xs H Q => ∃ (D dd : Addr) (gs : List (Str × V)) (c : V) (b : Bool), xs = [.ref a, c] ∧ cls = .ref D ∧ d = some dd ∧ H dd = some (.xd gs) ∧ ClsV c cv ∧ ExcC K D ∧ PySem.W.kitOne K (.ref D) cv = some b ∧ Q (.bl b) H
theorem call_isD {cv : Value} (hz : Zc cls d oe) (hf : ∃ vs, oe.data = .fields vs) : CallR (X.suite a ((a, oe) :: pn)) (.builtin "isinstance") (rIsD X.K a cls d cv) := by
  intro pins s σ H xs us Q I r h
  obtain ⟨D, dd, gs, c, b, rfl, rfl, rfl, hd, hcv, C, e, q⟩ := h
  obtain ⟨u1, u2, rfl, r1, r2⟩ := vals2 r
  cases (show u1 = Value.ref a from r1)
  have e2 := hcv.eq r2
  subst e2
  obtain ⟨hget, _⟩ := I.pin (a, oe) (List.mem_append.mpr (.inl List.mem_cons_self))
  obtain ⟨vs, hv⟩ := hf
  have hx : ObjOk X.prog X.w H s.heap dd (.xd gs) := I.hok dd _ hd
  obtain ⟨mA, hns, hr⟩ := hx
  obtain ⟨od, ho, hl⟩ := lookIn_ns hns
  have J : PySem.W.InstAt s.heap a oe D (some od) := ⟨hget, hz.1, by unfold PySem.W.notCls; rw [hv] <;> rfl, by rw [hz.2]; exact ho⟩
  exact PySem.W.kia_one (PySem.W.kitx_excD C.hg C.hk C.hs C.hd C.ha C.hn C.ht C.hm) I.kIn J e (fun z => nomatch z) fun tk => ⟨.bl b, H, I.kept (t' := tk) fun _ _ z => z, rfl, q⟩
def KitX' (K : PySem.W.Frag) (cv : Value) (r : Addr → Option Bool) : Prop := ∀ C b, r C = some b → ExcC K C ∧ PySem.W.kitOne K (.ref C) cv = some b
theorem je_xi0 (i : Nat) {ce : Expr} {c : V} {cv : Value} {r : Addr → Option Bool} (hk : KitX' X.K cv r) (hm : X.mg "isinstance" = none) (hz : Zc cls d oe) (hf : ∃ vs, oe.data = .fields vs) (hc : PE (X.suite a ((a, oe) :: pn)) ce (tC c)) (hcv : ClsV c cv) (hv : PE (X.suite a ((a, oe) :: pn)) (.Name x p) (tVar i)) (hg : Gl (X.suite a ((a, oe) :: pn)) "isinstance")
    (hs : starEach [.Name x p, ce] (X.suite a ((a, oe) :: pn)).env = (false, eval (.Name x p) (X.suite a ((a, oe) :: pn)).env) :: starEach [ce] (X.suite a ((a, oe) :: pn)).env) (hs2 : starEach [ce] (X.suite a ((a, oe) :: pn)).env = (false, eval ce (X.suite a ((a, oe) :: pn)).env) :: starEach [] (X.suite a ((a, oe) :: pn)).env) (hpl : (backTo pos (starEach [ce] (X.suite a ((a, oe) :: pn)).env)).any (·.1) = false) :
    JE (X.suite a ((a, oe) :: pn)) W (.Call (.Name "isinstance" p3) [.Name x p, ce] [] pos) (qXi a cls d i r) := by
  refine PE.imp (pe_callB (call_isD (X := X) (cv := cv) hz hf) hg hm (by decide +kernel) (pa_cons hv (pa_cons hc pa_nil hs2) hs) (by decide) (by decide) hs hpl) fun σ H Qh ⟨Gb, Hb, ρ, G, y, Q, R, E, q, k⟩ => ?_
  unfold qXi at q
  split at q
  · rename_i a' d' C' fs ex
    obtain ⟨rfl, e1, e2, q⟩ := q
    obtain ⟨h1, gs, h2, h3⟩ := R.exc i _ _ _ _ ex
    split at q
    · rename_i b eb
      obtain ⟨k1, k2⟩ := hk _ _ eb
      exact ⟨.ref a', h1, C', d', gs, c, b, rfl, e1, e2, h2, hcv, k1, k2, k _ _ G H (.refl R.gh) (.bl b) q⟩
    · exact q.elim
  · exact q.elim
theorem je_xiC (i : Nat) {C : Addr} {r : Addr → Option Bool} (hk : KitX' X.K (.ref C) r) (hm : X.mg "isinstance" = none) (hz : Zc cls d oe) (hf : ∃ vs, oe.data = .fields vs) (hc : X.mg cn = some (.ref C)) (hv : PE (X.suite a ((a, oe) :: pn)) (.Name x p) (tVar i) := by exact pv _) (hg : Gl (X.suite a ((a, oe) :: pn)) "isinstance" := by rfl) (hg2 : Gl (X.suite a ((a, oe) :: pn)) cn := by rfl) (hd : (cn == ("__debug__" : Str)) = false := by decide)
    (hs : starEach [.Name x p, .Name cn p2] (X.suite a ((a, oe) :: pn)).env = (false, eval (.Name x p) (X.suite a ((a, oe) :: pn)).env) :: starEach [.Name cn p2] (X.suite a ((a, oe) :: pn)).env := by rfl) (hs2 : starEach [.Name cn p2] (X.suite a ((a, oe) :: pn)).env = (false, eval (.Name cn p2) (X.suite a ((a, oe) :: pn)).env) :: starEach [] (X.suite a ((a, oe) :: pn)).env := by rfl) (hpl : (backTo pos (starEach [.Name cn p2] (X.suite a ((a, oe) :: pn)).env)).any (·.1) = false := by rfl) :
    JE (X.suite a ((a, oe) :: pn)) W (.Call (.Name "isinstance" p3) [.Name x p, .Name cn p2] [] pos) (qXi a cls d i r) := je_xi0 (X := X) (c := .ref C) i hk hm hz hf (pe_glob hg2 hc rfl hd) (.own C) hv hg hs hs2 hpl
theorem je_xiT (i : Nat) {n : String} {r : Addr → Option Bool} (hk : KitX' X.K (.type n) r) (hm : X.mg "isinstance" = none) (hz : Zc cls d oe) (hf : ∃ vs, oe.data = .fields vs) (hc : X.mg cn = none) (hv : PE (X.suite a ((a, oe) :: pn)) (.Name x p) (tVar i) := by exact pv _) (hb : bootBuiltins cn = some (.type n) := by decide +kernel) (hg : Gl (X.suite a ((a, oe) :: pn)) "isinstance" := by rfl) (hg2 : Gl (X.suite a ((a, oe) :: pn)) cn := by rfl) (hn : cn ≠ "__name__" := by decide) (hd : (cn == ("__debug__" : Str)) = false := by decide)
    (hs : starEach [.Name x p, .Name cn p2] (X.suite a ((a, oe) :: pn)).env = (false, eval (.Name x p) (X.suite a ((a, oe) :: pn)).env) :: starEach [.Name cn p2] (X.suite a ((a, oe) :: pn)).env := by rfl) (hs2 : starEach [.Name cn p2] (X.suite a ((a, oe) :: pn)).env = (false, eval (.Name cn p2) (X.suite a ((a, oe) :: pn)).env) :: starEach [] (X.suite a ((a, oe) :: pn)).env := by rfl) (hpl : (backTo pos (starEach [.Name cn p2] (X.suite a ((a, oe) :: pn)).env)).any (·.1) = false := by rfl) :
    JE (X.suite a ((a, oe) :: pn)) W (.Call (.Name "isinstance" p3) [.Name x p, .Name cn p2] [] pos) (qXi a cls d i r) := je_xi0 (X := X) (c := .ty n) i hk hm hz hf (pe_bltn hg2 hc hb rfl hn hd) (.ty n) hv hg hs hs2 hpl
end
end QL

set_option maxHeartbeats 2000000
namespace QL
open PySem PySem.Spec PyProof.Rows L2
mutual
/-- as nested data -/
def toD : PV → Option PyData
  | .non => some .none
  | .bl b => some (.bool b)
  | .int i => some (.int i)
  | .str x => some (.str x)
  | .lst xs => (toDs xs).map .list
  | .tup xs => (toDs xs).map .tuple
  | _ => none
def toDs : List PV → Option (List PyData)
  | [] => some []
  | x :: xs => match toD x, toDs xs with
    | some d, some ds => some (d :: ds)
    | _, _ => none
end
section
variable {K : PySem.W.Frag} {G H : Hp}
mutual
theorem dp_of (s : Same G H) : ∀ {x : PV} {v : V} {d : PyData}, toD x = some d → Rep K G x v → Dp K H v d
  | .non, _, _, e, .non => by
    unfold toD at e
    cases e
    exact .non
  | .bl b, _, _, e, .bl _ => by
    unfold toD at e
    cases e
    exact .bl b
  | .int i, _, _, e, .int _ => by
    unfold toD at e
    cases e
    exact .int i
  | .str x, _, _, e, .str _ => by
    unfold toD at e
    cases e
    exact .str x
  | .lst xs, _, _, e, .lst h r => by
    unfold toD at e
    cases q : toDs xs with
    | none => rw [q] at e; cases e
    | some ds =>
      rw [q] at e
      cases e
      exact .lst (s.seq h) (dps_of s q r)
  | .tup xs, _, _, e, .tup h r => by
    unfold toD at e
    cases q : toDs xs with
    | none => rw [q] at e; cases e
    | some ds =>
      rw [q] at e
      cases e
      exact .tup (Same.sqT s h) (dps_of s q r)
  | .ty _, _, _, e, _ => by unfold toD at e; cases e
  | .adr _, _, _, e, _ => by unfold toD at e; cases e
  | .obj _ _, _, _, e, _ => by unfold toD at e; cases e
theorem dps_of (s : Same G H) : ∀ {xs : List PV} {vs : List V} {ds : List PyData}, toDs xs = some ds → Reps K G xs vs → DpAll K H vs ds
  | [], _, _, e, .nil => by
    unfold toDs at e
    cases e
    exact .nil
  | x :: xs, _, _, e, .cons h r => by
    unfold toDs at e
    split at e
    · rename_i d ds e1 e2
      cases e
      exact .cons (dp_of s e1 h) (dps_of s e2 r)
    · cases e
end
end
def qEqD (neg : Bool) : Q2 := fun x z Q => ∃ d e, toD x = some d ∧ toD z = some e ∧ SeqAt.shaped d = true ∧ SeqAt.shaped e = true ∧ Q (.bl (neg ^^ PyData.eqv d e))
section
variable {X : Cx} {W : WX} {a b : Expr} {qa qb : QE} {pos : Pos}
theorem snd_eqD {K : PySem.W.Frag} : Snd2 K (rEqD K) (qEqD false) := by
  intro x z v w G H Q Qh hs rx rz ⟨d, e, h1, h2, h3, h4, q⟩ k
  exact ⟨d, e, dp_of hs h1 rx, dp_of hs h2 rz, h3, h4, k _ _ G H (.refl hs) (.bl _) (by simpa using q)⟩
theorem snd_neD {K : PySem.W.Frag} : Snd2 K (rNeD K) (qEqD true) := by
  intro x z v w G H Q Qh hs rx rz ⟨d, e, h1, h2, h3, h4, q⟩ k
  exact ⟨d, e, dp_of hs h1 rx, dp_of hs h2 rz, h3, h4, k _ _ G H (.refl hs) (.bl _) (by simpa using q)⟩
theorem je_eqD {k : Nat} (hr : Room k X.A) (ha : JE X W a qa) (hb : JE X W b qb) : JE X W (.Compare a [.Eq] [b] pos) (qOp (qEqD false) qa qb) := je_cmp (op_eqD hr.units) snd_eqD ha hb (nomark _)
theorem je_neD {k : Nat} (hr : Room k X.A) (ha : JE X W a qa) (hb : JE X W b qb) : JE X W (.Compare a [.NotEq] [b] pos) (qOp (qEqD true) qa qb) := je_cmp (op_neD hr.units) snd_neD ha hb (nomark _)
theorem jt_eqD {k : Nat} (hr : Room k X.A) (ha : JE X W a qa) (hb : JE X W b qb) : JT X W (.Compare a [.Eq] [b] pos) (qB (qOp (qEqD false) qa qb)) := jt_cmp (op_eqD hr.units) snd_eqD ha hb (nomark _)
theorem jt_neD {k : Nat} (hr : Room k X.A) (ha : JE X W a qa) (hb : JE X W b qb) : JT X W (.Compare a [.NotEq] [b] pos) (qB (qOp (qEqD true) qa qb)) := jt_cmp (op_neD hr.units) snd_neD ha hb (nomark _)
end
/-! ### one's own list: read -/
def qIxO (i : Nat) (qk : QE) : QE := fun ρ y Q => match ρ[i]? with
  | some (some (.own xs)) => qk ρ y fun k => match k with
    | .int k => ∃ u, atI xs k = some u ∧ Q u
    | _ => False
  | _ => False
def qLenO (i : Nat) : QE := fun ρ _ Q => match ρ[i]? with
  | some (some (.own xs)) => Q (.int xs.length)
  | _ => False
section
variable {X : Cx} {W : WX} {b e : Expr} {qb : QE} {x : Str} {p p2 pos : Pos}
theorem je_ixO (i : Nat) (hb : JE X W b qb) (hv : PE X (.Name x p) (tVar i) := by exact pv _) (hs : PlainIx b := by exact fun _ _ => rfl) : JE X W (.Subscript (.Name x p) b pos) (qIxO i qb) := by
  refine PE.imp (pe_ix ix_list hv hb hs) fun σ H Qh ⟨Gb, Hb, ρ, G, y, Q, R, E, q, k⟩ => ?_
  unfold qIxO at q
  split at q
  · rename_i xs ex
    obtain ⟨a, vs, e1, e2, e3, e4, e5⟩ := R.own i xs ex
    refine ⟨.ref a, e1, Gb, Hb, ρ, G, y, _, R, E, q, fun z w G1 H1 s1 r1 q1 => ?_⟩
    split at q1
    · obtain ⟨u, hu, q1⟩ := q1
      obtain ⟨v', h1, h2⟩ := atI_rep (e3.mono s1.gg) hu
      exact ⟨a, vs, _, v', rfl, rep_int r1, SqL.of (s1.hh _ _ e2), h1, k _ _ G1 H1 s1 h2 q1⟩
    · exact q1.elim
  · exact q.elim
theorem je_lenO (i : Nat) (hm : X.mg "len" = none) (hv : PE X (.Name x p) (tVar i) := by exact pv _) (hg : Gl X "len" := by rfl) (he : starEach [.Name x p] X.env = (false, eval (.Name x p) X.env) :: starEach [] X.env := by rfl) (hpl : (backTo pos (starEach [] X.env)).any (·.1) = false := by rfl) :
    JE X W (.Call (.Name "len" p2) [.Name x p] [] pos) (qLenO i) := by
  refine PE.imp (pe_callB call_len_seq hg hm (by decide +kernel) (pa_cons hv pa_nil he) (by decide) (by decide) he hpl) fun σ H Qh ⟨Gb, Hb, ρ, G, y, Q, R, E, q, k⟩ => ?_
  unfold qLenO at q
  split at q
  · rename_i xs ex
    obtain ⟨a, vs, e1, e2, e3, e4, e5⟩ := R.own i xs ex
    refine ⟨.ref a, e1, a, vs, rfl, .inl (SqL.of e2), ?_⟩
    rw [show (vs.length : Int) = (xs.length : Int) from congrArg _ e3.length.symm]
    exact k _ _ G H (.refl R.gh) (.int _) q
  · exact q.elim
end

/-! ### range(a, b, c) -/
def rangeC (lo c : Int) (n : Nat) : List PV := (List.range n).map fun (k : Nat) => PV.int (lo + (k : Int) * c)
def qForR3 (i : Nat) (qa : QA) (q : QS) : QS := fun D ρ => qa ρ (D.ex ρ) fun xs => match xs with
  | [.int lo, .int hi, .int c] => ∃ n, RgC lo hi c n ∧ qLoop i q D (rangeC lo c n) ρ
  | _ => False
section
variable {X : Cx} {W : WX} {a : List Stmt} {q : QS} {qa : QA} {pos : Pos}
theorem rangeC_get {lo c : Int} {n k : Nat} (h : k < n) : (rangeC lo c n)[k]? = some (.int (lo + (k : Int) * c)) := by
  unfold rangeC
  rw [List.getElem?_map, List.getElem?_range h]
  rfl
theorem rangeC_len {lo c : Int} {n : Nat} : (rangeC lo c n).length = n := by
  unfold rangeC
  rw [List.length_map, List.length_range]
theorem js_forR3 (i : Nat) {x : Str} {ae be ce : Expr} {npos p pos2 : Pos} (hp : PassesOwn (model X.prog X.w) X.A X.env X.xe) (hc : X.calm = true) (hN : X.N.Nodup) (hm : X.mg "range" = none) (h : JA X W [ae, be, ce] qa) (hb : JSs X W a q) (hg : Gl X "range" := by rfl) (hi : X.N[i]? = some x := by rfl)
    (hx : Loc X.env.scope x := by first | exact Or.inl rfl | exact Or.inr rfl) (hf : X.fn x = true ∨ X.env.scope.names.lookup x = some .local := by first | exact .inl rfl | exact .inr rfl)
    (hs : ∀ x, foldedSetIterable (.Call (.Name "range" p) [ae, be, ce] [] pos2) X.env x = pure x := by intro _; rfl) (hs2 : starEach [ae, be, ce] X.env = (false, eval ae X.env) :: starEach [be, ce] X.env := by rfl) (hpl : (backTo pos2 (starEach [be, ce] X.env)).any (·.1) = false := by rfl) :
    JS X W (.For (.Name x npos) (.Call (.Name "range" p) [ae, be, ce] [] pos2) a [] pos) (qForR3 i qa q) := by
  refine PS.imp (ps_for hp hc (pi_range3 hg hm h hs2 hpl) (pg_name hN hi hx hf) hb hs) fun Dh σ H ⟨Gb, Hb, ρ, G, D, R, M, q'⟩ => ?_
  refine ⟨Gb, Hb, ρ, G, D.ex ρ, _, R, M.exok R, q', fun xs vs G1 H1 s1 r1 q1 => ?_⟩
  split at q1
  · rename_i lo hi c
    obtain ⟨n, hn, q1⟩ := q1
    cases r1 with
    | cons r1 rr =>
      cases rr with
      | cons r2 rr =>
        cases rr with
        | cons r3 rr =>
          cases r1; cases r2; cases r3; cases rr
          refine ⟨lo, hi, c, n, rfl, hn, for_rangeC (lo := lo) (c := c) (n := n) (fun k σ' H' => ∃ ρ' G', RelS X.K Gb Hb ρ' σ' G' H' ∧ qLoop i q D ((rangeC lo c n).drop k) ρ') ⟨ρ, G1, R.mono s1, q1⟩ ?_ ?_⟩
          · rintro k σ' H' hk ⟨ρ', G', R', q2⟩
            have q3 := loop_drop (rangeC_get hk) q2
            refine ⟨Gb, Hb, _, G', { D with nx := fun ρ' => qLoop i q D ((rangeC lo c n).drop (k + 1)) ρ', ct := fun ρ' => qLoop i q D ((rangeC lo c n).drop (k + 1)) ρ', bk := D.nx }, R'.set i (.int _), ?_, q3⟩
            exact ⟨fun ρ2 σ2 G2 H2 R2 q => ⟨ρ2, G2, R2, q⟩, M.rt, M.nx, fun ρ2 σ2 G2 H2 R2 q => ⟨ρ2, G2, R2, q⟩, M.ex⟩
          · rintro σ' H' ⟨ρ', G', R', q2⟩
            rw [List.drop_of_length_le (by rw [rangeC_len]; exact Nat.le_refl _)] at q2
            exact M.nx _ _ _ _ R' q2
  · exact q1.elim
end

/-! ### defs with defaults -/
/-- a def of the text, as FunD has it -/
abbrev FunA (K : PySem.W.Frag) (x qual : Str) (st : Stmt) (dvs : List V) (f : Addr) (fd : FuncData) : Prop := FunD K x qual (defArgs st) (defBody st) (defScope st) dvs [] f fd
theorem funa_mk {K : PySem.W.Frag} {x qual : Str} {st : Stmt} {f : Addr} {oc : Value} {od an : Option Addr} {osl : Array (Option Value)} {kV doc pm cdv ct : Value} (l : K.lookup f = some ⟨oc, od, .func (PySem.W.fnOf x qual (defArgs st) (defBody st) (defScope st) .none kV doc pm an cdv ct), osl⟩)
    (c : PySem.W.codeIn K cdv qual = true) (k : PySem.W.keepIn K (.ref f) = true) : FunA K x qual st [] f (PySem.W.fnOf x qual (defArgs st) (defBody st) (defScope st) .none kV doc pm an cdv ct) :=
  ⟨⟨oc, od, .none, kV, doc, pm, an, cdv, ct, osl, rfl, l, c, .inl ⟨rfl, rfl⟩, .inl rfl⟩, k⟩
theorem funa_mk1 {K : PySem.W.Frag} {x qual : Str} {st : Stmt} {f T : Addr} {oc : Value} {od an : Option Addr} {osl : Array (Option Value)} {kV doc pm cdv ct : Value} {o : Obj} {its : List Value} {n : Nat} {dvs : List V} (l : K.lookup f = some ⟨oc, od, .func (PySem.W.fnOf x qual (defArgs st) (defBody st) (defScope st) (.ref T) kV doc pm an cdv ct), osl⟩)
    (c : PySem.W.codeIn K cdv qual = true) (k : PySem.W.keepIn K (.ref f) = true) (lT : K.lookup T = some o) (oT : o.data = .seq its.toArray n) (hne : dvs ≠ []) (r : Vals dvs its) : FunA K x qual st dvs f (PySem.W.fnOf x qual (defArgs st) (defBody st) (defScope st) (.ref T) kV doc pm an cdv ct) :=
  ⟨⟨oc, od, .ref T, kV, doc, pm, an, cdv, ct, osl, rfl, l, c, .inr ⟨hne, T, o, its, n, rfl, lT, oT, r⟩, .inl rfl⟩, k⟩
section
variable {P : Program} {w : World} {K : PySem.W.Frag} {mg : Str → Option Value} {base : Heap} {x qual : Str} {st : Stmt} {f : Addr} {fd : FuncData} {N ps : List Str} {k : Nat} {Ps : PSpec} {Is : ISpec} {C : Addr} {q : QS} {dvs : List V}
theorem binds_a0 (F : FunA K x qual st [] f fd) (h : ∀ (kV doc pm : Value) (an : Option Addr) (cdv ct : Value) (us : List Value), us.length = ps.length → bindArgs (PySem.W.fnOf x qual (defArgs st) (defBody st) (defScope st) .none kV doc pm an cdv ct) ⟨us, []⟩ = pure (ps.zip us)) : Binds K fd ps [] := by
  obtain ⟨oc, od, dV, kV, doc, pm, an, cdv, ct, osl, rfl, lk, hcd, hD, hK⟩ := F.ex
  rcases hD with ⟨_, rfl⟩ | ⟨z, _⟩
  · exact .all (h kV doc pm an cdv ct)
  · exact absurd rfl z
theorem fa_q (F : FunA K x qual st dvs f fd) (S : FnScope N ps (defScope st)) (hl : ∀ xs y Q, Ps xs y Q → xs.length = ps.length)
    (hq : ∀ (cdv : Value) (A : Around) (outer : List Env) (s : Shared) (H : Hp) (E : XK), Room k (A.deeper (envOfC qual (defScope st) s.heap.objs.size f cdv)) →
      JSs (cxOf (L2.CX P w) P w K mg base N qual (defScope st) f cdv A outer s H E) (fun cls d _ H => E cls d H) (defBody st) q)
    (hp : ∀ xs y Q, Ps xs y Q → q (endsP y Q) (startP N.length xs)) : FnOk P w K mg base (L2.CX P w) (k + 1) f fd ps (spP K Ps) := by
  refine FunD.ok F S (fun vs H Q E h => ?_) (fun cdv A outer s H vs Q E hr h => ⟨_, hq cdv A outer s H E hr, ?_⟩)
  · obtain ⟨G, xs, y, Qp, _, r, p, _⟩ := h
    rw [← r.length]
    exact hl xs y Qp p
  · obtain ⟨G, xs, y, Qp, sm, r, p, k1, k2⟩ := h
    refine ⟨G, H, startP N.length xs, G, endsP y Qp, rels_start sm r, ⟨fun ρ σ G' H' R q => k1 .non .non G' H' R.step .non q, fun x v G' H' s r q => k1 x v G' H' s r q, fun _ _ _ _ _ q => q, fun _ _ _ _ _ q => q, fun ρ σ G' H' p d R r q => k2 p d G' H' R.step r q⟩, hp xs y Qp p⟩
theorem fa_qI (F : FunA K x qual st dvs f fd) (S : FnScope N ps (defScope st)) (hl : ∀ xs y Q, Is xs y Q → xs.length + 1 = ps.length)
    (hq : ∀ (cdv : Value) (A : Around) (outer : List Env) (s : Shared) (H : Hp) (E : XK), Room k (A.deeper (envOfC qual (defScope st) s.heap.objs.size f cdv)) →
      JSs (cxOf (L2.CX P w) P w K mg base N qual (defScope st) f cdv A outer s H E) (fun cls d _ H => E cls d H) (defBody st) q)
    (hp : ∀ a xs y Q, Is xs y Q → q (endsI y a C Q) (startI N.length a C xs)) : FnOk P w K mg base (L2.CX P w) (k + 1) f fd ps (spI K C Is) := by
  refine FunD.ok F S (fun vs H Q E h => ?_) (fun cdv A outer s H vs Q E hr h => ⟨_, hq cdv A outer s H E hr, ?_⟩)
  · obtain ⟨G, a, dx, ws, xs, y, Qp, rfl, _, _, _, r, p, _⟩ := h
    show ws.length + 1 = _
    rw [← r.length]
    exact hl xs y Qp p
  · obtain ⟨G, a, dx, ws, xs, y, Qp, rfl, ha, hg, sm, r, p, k1, k2⟩ := h
    refine ⟨G, del H a, startI N.length a C xs, G, endsI y a C Qp, rels_startI sm r ha hg, ⟨fun ρ σ G' H' R q => ?_, fun _ _ _ _ _ _ q => q.elim, fun _ _ _ _ _ q => q, fun _ _ _ _ _ q => q, fun ρ σ G' H' p d R r q => k2 p d G' H' R.step r q⟩, hp a xs y Qp p⟩
    obtain ⟨fs, e, q⟩ := q
    obtain ⟨dx', gs, h1, h2, h3, h4, h5⟩ := R.ins 0 a C fs e
    exact k1 fs dx' gs G' H' R.step h4 h2 h3 q
end

/-! ### answers of isinstance and == by kinds of values -/
def inL (C : Addr) : List Addr → Bool
  | [] => false
  | D :: r => decide (C = D) || inL C r
theorem inL_mem {C : Addr} : ∀ {os : List Addr}, inL C os = true → C ∈ os
  | D :: r, h => by
    unfold inL at h
    rcases Bool.or_eq_true_iff.mp h with h | h
    · rw [of_decide_eq_true h]; exact List.mem_cons_self
    · exact List.mem_cons_of_mem _ (inL_mem h)
def isiInt (os : List Addr) : PV → Option Bool
  | .int _ => some true
  | .bl _ => some true
  | .non => some false
  | .str _ => some false
  | .lst _ => some false
  | .tup _ => some false
  | .obj C _ => if inL C os = true then some false else none
  | _ => none
def isiBool (os : List Addr) : PV → Option Bool
  | .bl _ => some true
  | .int _ => some false
  | .non => some false
  | .str _ => some false
  | .lst _ => some false
  | .tup _ => some false
  | .obj C _ => if inL C os = true then some false else none
  | _ => none
def isiStr (os : List Addr) : PV → Option Bool
  | .str _ => some true
  | .bl _ => some false
  | .int _ => some false
  | .non => some false
  | .lst _ => some false
  | .tup _ => some false
  | .obj C _ => if inL C os = true then some false else none
  | _ => none
def isiC (D : Addr) (os : List Addr) : PV → Option Bool
  | .obj C _ => if C = D then some true else if inL C os = true then some false else none
  | .str _ => some false
  | .bl _ => some false
  | .int _ => some false
  | .non => some false
  | .lst _ => some false
  | .tup _ => some false
  | _ => none
/-- instances of the classes os are none of the built-in type -/
def KitO (K : PySem.W.Frag) (cv : Value) (os : List Addr) : Prop := ∀ C ∈ os, IsC K C ∧ PySem.W.kitOne K (.ref C) cv = some false
theorem kit_int {K : PySem.W.Frag} {os : List Addr} (h : KitO K (.type "int") os) : KitR K (.type "int") (isiInt os) := by
  intro x b e
  cases x <;> simp only [isiInt, reduceCtorEq, Option.some.injEq] at e
  case non => exact ⟨_, rfl, (fun _ _ z => nomatch z), by subst e; exact kit_ty (by decide +kernel)⟩
  case bl => exact ⟨_, rfl, (fun _ _ z => nomatch z), by subst e; exact kit_ty (by decide +kernel)⟩
  case int => exact ⟨_, rfl, (fun _ _ z => nomatch z), by subst e; exact kit_ty (by decide +kernel)⟩
  case str => exact ⟨_, rfl, (fun _ _ z => nomatch z), by subst e; exact kit_ty (by decide +kernel)⟩
  case lst => exact ⟨_, rfl, (fun _ _ z => nomatch z), by subst e; exact kit_ty (by decide +kernel)⟩
  case tup => exact ⟨_, rfl, (fun _ _ z => nomatch z), by subst e; exact kit_ty (by decide +kernel)⟩
  case obj C fs =>
    split at e
    · rename_i hC
      cases e
      obtain ⟨h1, h2⟩ := h C (inL_mem hC)
      exact ⟨_, rfl, (fun _ _ z => by cases z; exact h1), h2⟩
    · cases e
theorem kit_bool {K : PySem.W.Frag} {os : List Addr} (h : KitO K (.type "bool") os) : KitR K (.type "bool") (isiBool os) := by
  intro x b e
  cases x <;> simp only [isiBool, reduceCtorEq, Option.some.injEq] at e
  case non => exact ⟨_, rfl, (fun _ _ z => nomatch z), by subst e; exact kit_ty (by decide +kernel)⟩
  case bl => exact ⟨_, rfl, (fun _ _ z => nomatch z), by subst e; exact kit_ty (by decide +kernel)⟩
  case int => exact ⟨_, rfl, (fun _ _ z => nomatch z), by subst e; exact kit_ty (by decide +kernel)⟩
  case str => exact ⟨_, rfl, (fun _ _ z => nomatch z), by subst e; exact kit_ty (by decide +kernel)⟩
  case lst => exact ⟨_, rfl, (fun _ _ z => nomatch z), by subst e; exact kit_ty (by decide +kernel)⟩
  case tup => exact ⟨_, rfl, (fun _ _ z => nomatch z), by subst e; exact kit_ty (by decide +kernel)⟩
  case obj C fs =>
    split at e
    · rename_i hC
      cases e
      obtain ⟨h1, h2⟩ := h C (inL_mem hC)
      exact ⟨_, rfl, (fun _ _ z => by cases z; exact h1), h2⟩
    · cases e
theorem kit_str {K : PySem.W.Frag} {os : List Addr} (h : KitO K (.type "str") os) : KitR K (.type "str") (isiStr os) := by
  intro x b e
  cases x <;> simp only [isiStr, reduceCtorEq, Option.some.injEq] at e
  case non => exact ⟨_, rfl, (fun _ _ z => nomatch z), by subst e; exact kit_ty (by decide +kernel)⟩
  case bl => exact ⟨_, rfl, (fun _ _ z => nomatch z), by subst e; exact kit_ty (by decide +kernel)⟩
  case int => exact ⟨_, rfl, (fun _ _ z => nomatch z), by subst e; exact kit_ty (by decide +kernel)⟩
  case str => exact ⟨_, rfl, (fun _ _ z => nomatch z), by subst e; exact kit_ty (by decide +kernel)⟩
  case lst => exact ⟨_, rfl, (fun _ _ z => nomatch z), by subst e; exact kit_ty (by decide +kernel)⟩
  case tup => exact ⟨_, rfl, (fun _ _ z => nomatch z), by subst e; exact kit_ty (by decide +kernel)⟩
  case obj C fs =>
    split at e
    · rename_i hC
      cases e
      obtain ⟨h1, h2⟩ := h C (inL_mem hC)
      exact ⟨_, rfl, (fun _ _ z => by cases z; exact h1), h2⟩
    · cases e
/-- what the written part says of isinstance(x, D) -/
structure KitC (K : PySem.W.Frag) (D : Addr) : Prop where
  self : PySem.W.kitOne K (.ref D) (.ref D) = some true
  int : PySem.W.kitOne K (.type "int") (.ref D) = some false
  bl : PySem.W.kitOne K (.type "bool") (.ref D) = some false
  str : PySem.W.kitOne K (.type "str") (.ref D) = some false
  non : PySem.W.kitOne K (.type "NoneType") (.ref D) = some false
  lst : PySem.W.kitOne K (.type "list") (.ref D) = some false
  tup : PySem.W.kitOne K (.type "tuple") (.ref D) = some false
theorem kit_c {K : PySem.W.Frag} {D : Addr} {os : List Addr} (hD : IsC K D) (k : KitC K D) (h : KitO K (.ref D) os) : KitR K (.ref D) (isiC D os) := by
  intro x b e
  cases x <;> simp only [isiC, reduceCtorEq, Option.some.injEq] at e
  case non => exact ⟨_, rfl, (fun _ _ z => nomatch z), by subst e; exact k.non⟩
  case bl => exact ⟨_, rfl, (fun _ _ z => nomatch z), by subst e; exact k.bl⟩
  case int => exact ⟨_, rfl, (fun _ _ z => nomatch z), by subst e; exact k.int⟩
  case str => exact ⟨_, rfl, (fun _ _ z => nomatch z), by subst e; exact k.str⟩
  case lst => exact ⟨_, rfl, (fun _ _ z => nomatch z), by subst e; exact k.lst⟩
  case tup => exact ⟨_, rfl, (fun _ _ z => nomatch z), by subst e; exact k.tup⟩
  case obj C fs =>
    split at e
    · rename_i hC
      subst hC
      cases e
      exact ⟨_, rfl, (fun _ _ z => by cases z; exact hD), k.self⟩
    · split at e
      · rename_i hC
        cases e
        obtain ⟨h1, h2⟩ := h C (inL_mem hC)
        exact ⟨_, rfl, (fun _ _ z => by cases z; exact h1), h2⟩
      · cases e
/-- which values an own == may be asked with -/
def nfC (D : Addr) (os : List Addr) : PV → Bool
  | .obj C _ => decide (C = D) || inL C os
  | .str _ => true
  | .bl _ => true
  | .int _ => true
  | .non => true
  | .lst _ => true
  | .tup _ => true
  | _ => false
structure NotF (K : PySem.W.Frag) (D : Addr) : Prop where
  int : PySem.W.notFirst K D (.type "int") = true
  bl : PySem.W.notFirst K D (.type "bool") = true
  str : PySem.W.notFirst K D (.type "str") = true
  non : PySem.W.notFirst K D (.type "NoneType") = true
  lst : PySem.W.notFirst K D (.type "list") = true
  tup : PySem.W.notFirst K D (.type "tuple") = true
theorem nf_c {K : PySem.W.Frag} {D : Addr} {os : List Addr} (hD : IsC K D) (k : NotF K D) (h : ∀ C ∈ os, IsC K C ∧ PySem.W.notFirst K D (.ref C) = true) : NfR K D (nfC D os) := by
  intro x e
  cases x <;> simp only [nfC, reduceCtorEq, Bool.false_eq_true] at e
  case non => exact ⟨_, rfl, (fun _ _ z => nomatch z), k.non⟩
  case bl => exact ⟨_, rfl, (fun _ _ z => nomatch z), k.bl⟩
  case int => exact ⟨_, rfl, (fun _ _ z => nomatch z), k.int⟩
  case str => exact ⟨_, rfl, (fun _ _ z => nomatch z), k.str⟩
  case lst => exact ⟨_, rfl, (fun _ _ z => nomatch z), k.lst⟩
  case tup => exact ⟨_, rfl, (fun _ _ z => nomatch z), k.tup⟩
  case obj C fs =>
    rcases Bool.or_eq_true_iff.mp e with e | e
    · have := of_decide_eq_true e
      subst this
      exact ⟨_, rfl, (fun _ _ z => by cases z; exact hD), by unfold PySem.W.notFirst; simp⟩
    · obtain ⟨h1, h2⟩ := h C (inL_mem e)
      exact ⟨_, rfl, (fun _ _ z => by cases z; exact h1), h2⟩
theorem tkOf {X : Cx} {W : WX} (t : Takes X W) : Tk X W := fun σ => passAt t σ
end QL

namespace QL
open PySem PySem.Spec PyProof.Rows L2
/-! ### the written part's tables -/
theorem kit_self {K : PySem.W.Frag} (D : Addr) : PySem.W.kitOne K (.ref D) (.ref D) = some true := by
  unfold PySem.W.kitOne
  rw [if_pos (beq_self_eq_true _)]
theorem kit_ref {K : PySem.W.Frag} {D : Addr} {t : Value} {b : Bool} (h1 : PySem.W.isClsIn K D = true) (h2 : PySem.W.typeIn K (.ref D) = some (.type "type")) (h3 : PySem.W.subIn K t (.ref D) = some b) (h4 : b = true ∨ (t == .ref D) = false) :
    PySem.W.kitOne K t (.ref D) = some b := by
  have e2 : ((PySem.W.clsIn K D).isSome && PySem.W.typeIn K (.ref D) == some (.type "type")) = true := by
    have h2' : (PySem.W.clsIn K D).isSome = true := h1
    rw [h2', h2] <;> rfl
  unfold PySem.W.kitOne
  by_cases e : (t == .ref D) = true
  · rw [if_pos e]
    rcases h4 with rfl | h4
    · rfl
    · rw [h4] at e
      cases e
  · rw [if_neg e]
    show (if ((PySem.W.clsIn K D).isSome && PySem.W.typeIn K (.ref D) == some (.type "type")) = true then PySem.W.subIn K t (.ref D) else none) = some b
    rw [if_pos e2]
    exact h3
theorem kit_typ {K : PySem.W.Frag} {C : Addr} {n : String} {b : Bool} (h3 : PySem.W.subIn K (.ref C) (.type n) = some b) (h1 : PySem.W.kitMeta n = true := by decide +kernel) : PySem.W.kitOne K (.ref C) (.type n) = some b := by
  unfold PySem.W.kitOne
  rw [if_neg (by intro z; cases z)]
  show (if PySem.W.kitMeta n = true then PySem.W.subIn K (.ref C) (.type n) else none) = some b
  rw [if_pos h1]
  exact h3
theorem exm_ref {K : PySem.W.Frag} {C D : Addr} {b : Bool} (h1 : PySem.W.subIn K (.ref D) (.type "BaseException") = some true) (h2 : PySem.W.isClsIn K D = true) (h3 : PySem.W.typeIn K (.ref D) = some (.type "type")) (h4 : PySem.W.subIn K (.ref C) (.ref D) = some b) :
    PySem.W.exmOne K (.ref C) (.ref D) = some b := by
  have e1 : (PySem.W.subIn K (.ref D) (.type "BaseException") == some true) = true := by rw [h1] <;> rfl
  have e2 : ((PySem.W.clsIn K D).isSome && PySem.W.typeIn K (.ref D) == some (.type "type")) = true := by
    have h2' : (PySem.W.clsIn K D).isSome = true := h2
    rw [h2', h3] <;> rfl
  show (if (PySem.W.subIn K (.ref D) (.type "BaseException") == some true) = true then (if ((PySem.W.clsIn K D).isSome && PySem.W.typeIn K (.ref D) == some (.type "type")) = true then PySem.W.subIn K (.ref C) (.ref D) else none) else none) = some b
  rw [if_pos e1, if_pos e2]
  exact h4
theorem kitc_of {K : PySem.W.Frag} {D : Addr} (h1 : PySem.W.isClsIn K D = true) (h2 : PySem.W.typeIn K (.ref D) = some (.type "type"))
    (i : PySem.W.subIn K (.type "int") (.ref D) = some false) (b : PySem.W.subIn K (.type "bool") (.ref D) = some false) (s : PySem.W.subIn K (.type "str") (.ref D) = some false) (n : PySem.W.subIn K (.type "NoneType") (.ref D) = some false)
    (l : PySem.W.subIn K (.type "list") (.ref D) = some false) (t : PySem.W.subIn K (.type "tuple") (.ref D) = some false) : KitC K D :=
  ⟨kit_self D, kit_ref h1 h2 i (.inr rfl), kit_ref h1 h2 b (.inr rfl), kit_ref h1 h2 s (.inr rfl), kit_ref h1 h2 n (.inr rfl), kit_ref h1 h2 l (.inr rfl), kit_ref h1 h2 t (.inr rfl)⟩
/-! ### the law's own promise, the end -/
theorem q_sp {K : PySem.W.Frag} {H : Hp} {a : Addr} {ns : List Int} {P : PSpec} (hS : SqL K H a (ns.map V.int)) (h : ∀ y, P [.lst (ns.map PV.int)] y (fun x => x = .bl true)) : spP K P [.ref a] H (fun v _ => v = .bl true) fun _ _ _ => False := by
  refine ⟨H, [.lst (ns.map PV.int)], fun _ => False, fun x => x = .bl true, .refl H, .cons (.lst hS (reps_ints ns)) .nil, h _, ?_, fun _ _ _ _ _ _ z => z⟩
  rintro x v G' H' _ r rfl
  cases r
  rfl
end QL

namespace QL
open PySem PySem.Spec PyProof.Rows L2
/-! ### pure steps -/
theorem ite_b {c : Bool} {P Q : Prop} (h1 : c = true → P) (h2 : c = false → Q) : if c = true then P else Q := by
  cases c
  · exact h2 rfl
  · exact h1 rfl
theorem ite_t {c : Bool} {P Q : Prop} (h : c = true) (h1 : P) : if c = true then P else Q := by rw [if_pos h]; exact h1
theorem ite_f {c : Bool} {P Q : Prop} (h : c = false) (h1 : Q) : if c = true then P else Q := by subst h; exact h1
theorem qcut {q r : QS} {D : QD} {ρ : PSt} (I : PSt → Prop) (h1 : q { D with nx := I } ρ) (h2 : ∀ ρ', I ρ' → r D ρ') : qCut q r D ρ := ⟨I, h1, h2⟩
/-- if c: q (which ends the def) -/
theorem guard {c : QT} {q r : QS} {D : QD} {ρ : PSt} (h : ∀ R : Prop, R → c ρ (D.ex ρ) (fun b => if b = true then q { D with nx := fun ρ' => r D ρ' } ρ else R)) (h2 : r D ρ) : qSeq (qIfS c q qNext) r D ρ := h _ h2
theorem loop_at {i : Nat} {q : QS} {D : QD} {xs : List PV} {ρ : PSt} (I : Nat → PSt → Prop) (h0 : I 0 ρ)
    (hs : ∀ (k : Nat) (x : PV) (ρ : PSt) (N : PSt → Prop), xs[k]? = some x → (∀ ρ', I (k + 1) ρ' → N ρ') → I k ρ → q { D with nx := N, ct := N, bk := D.nx } (ρ.set i (some (.pv x)))) (he : ∀ ρ, I xs.length ρ → D.nx ρ) : qLoop i q D xs ρ := by
  have key : ∀ (ys : List PV) (k : Nat) (ρ : PSt), xs.drop k = ys → k ≤ xs.length → I k ρ → qLoop i q D ys ρ := by
    intro ys
    induction ys with
    | nil =>
      intro k ρ e hk h
      have : k = xs.length := by
        have := congrArg List.length e
        rw [List.length_drop] at this
        simp at this
        omega
      subst this
      exact he ρ h
    | cons y ys ih =>
      intro k ρ e hk h
      have hl : k < xs.length := by
        have := congrArg List.length e
        rw [List.length_drop] at this
        simp at this
        omega
      have hy : xs[k]? = some y := by
        have := congrArg (fun l => l[0]?) e
        simpa using this
      have ht : xs.drop (k + 1) = ys := by
        have := congrArg List.tail e
        simpa using this
      exact hs k y ρ (fun ρ' => qLoop i q D ys ρ') hy (fun ρ' h' => ih (k + 1) ρ' ht hl h') h
  exact key xs 0 ρ (by simp) (Nat.zero_le _) h0
theorem map_at {α : Type} {f : α → PV} {l : List α} {k : Nat} {x : PV} (h : (l.map f)[k]? = some x) : ∃ a, l[k]? = some a ∧ x = f a := by
  rw [List.getElem?_map] at h
  cases e : l[k]? with
  | none => rw [e] at h; cases h
  | some a => rw [e] at h; exact ⟨a, rfl, (Option.some.inj h).symm⟩
theorem rangeP_at {lo : Int} {n k : Nat} {x : PV} (h : (rangeP lo n)[k]? = some x) : k < n ∧ x = .int (lo + (k : Int)) := by
  obtain ⟨j, h1, h2⟩ := map_at h
  rw [List.getElem?_range] at h1
  · cases h1
    have := (List.getElem?_eq_some_iff.mp h).1
    simp [rangeP] at this
    exact ⟨this, h2⟩
  · have := (List.getElem?_eq_some_iff.mp h).1
    simpa [rangeP] using this
theorem rangeP_len {lo : Int} {n : Nat} : (rangeP lo n).length = n := by simp [rangeP]
theorem rangeC_at {lo c : Int} {n k : Nat} {x : PV} (h : (rangeC lo c n)[k]? = some x) : k < n ∧ x = .int (lo + (k : Int) * c) := by
  obtain ⟨j, h1, h2⟩ := map_at h
  have hk : k < n := by
    have := (List.getElem?_eq_some_iff.mp h).1
    simpa [rangeC] using this
  rw [List.getElem?_range hk] at h1
  cases h1
  exact ⟨hk, h2⟩
/-! ### heap bits for the exceptions' stores -/
theorem x_at1 {H : Hp} {x : Addr} {o : HO} : upd H x o x = some o := upd_same
theorem x_at2 {H : Hp} {x d : Addr} {o u : HO} (h : d ≠ x) : upd (upd H d u) x o d = some u := by rw [upd_ne h]; exact upd_same
theorem x_at3 {H : Hp} {x d : Addr} {o u : HO} (h : d ≠ x) (e : H x = some o) : upd H d u x = some o := by rw [upd_ne (Ne.symm h)]; exact e
theorem reps_getD {K : PySem.W.Frag} {G : Hp} {xs : List PV} {vs : List V} (r : Reps K G xs vs) (j : Nat) : Rep K G (xs.getD j .non) (vs.getD j .non) := by
  rw [List.getD_eq_getElem?_getD, List.getD_eq_getElem?_getD]
  cases e : xs[j]? with
  | none =>
    have : vs[j]? = none := by
      rw [List.getElem?_eq_none_iff] at e ⊢
      rw [← r.length]; exact e
    rw [this]
    exact .non
  | some x =>
    obtain ⟨v, h1, h2⟩ := r.get e
    rw [h1]
    exact h2
theorem lookup_hd {α : Type} {k : Str} {v : α} {r : List (Str × α)} : List.lookup k ((k, v) :: r) = some v := by
  rw [List.lookup_cons, beq_self_eq_true]
theorem lookup_tl {α : Type} {k k' : Str} {v : α} {r : List (Str × α)} (h : (k == k') = false) : List.lookup k ((k', v) :: r) = List.lookup k r := by
  rw [List.lookup_cons, h]
theorem putP_nil {f : Str} {v : PV} : putP f v [] = [(f, v)] := rfl
theorem putP_hd {f : Str} {v u : PV} {r : List (Str × PV)} : putP f v ((f, u) :: r) = (f, v) :: r := if_pos rfl
theorem putP_tl {f g : Str} {v u : PV} {r : List (Str × PV)} (h : (g == f) = false) : putP f v ((g, u) :: r) = (g, u) :: putP f v r := if_neg (by intro e; subst e; rw [beq_self_eq_true] at h; cases h)
theorem atI_nth {α : Type} (xs : List α) (k : Nat) : atI xs (k : Int) = xs[k]? := by
  unfold atI ixN
  rw [if_pos (by omega)]
  by_cases h : k < xs.length
  · rw [if_pos (by omega)]
    show xs[(k : Int).toNat]? = _
    rw [Int.toNat_natCast]
  · rw [if_neg (by omega)]
    exact (List.getElem?_eq_none (by omega)).symm
theorem atI_l0 {α : Type} (xs : List α) : atI xs 0 = xs[0]? := atI_nth xs 0
theorem atI_l1 {α : Type} (xs : List α) : atI xs 1 = xs[1]? := atI_nth xs 1
theorem atI_l2 {α : Type} (xs : List α) : atI xs 2 = xs[2]? := atI_nth xs 2
theorem atI_l3 {α : Type} (xs : List α) : atI xs 3 = xs[3]? := atI_nth xs 3
theorem atI_l4 {α : Type} (xs : List α) : atI xs 4 = xs[4]? := atI_nth xs 4
theorem atI_l5 {α : Type} (xs : List α) : atI xs 5 = xs[5]? := atI_nth xs 5
theorem atI_l6 {α : Type} (xs : List α) : atI xs 6 = xs[6]? := atI_nth xs 6
theorem atI_l7 {α : Type} (xs : List α) : atI xs 7 = xs[7]? := atI_nth xs 7
theorem atI_l8 {α : Type} (xs : List α) : atI xs 8 = xs[8]? := atI_nth xs 8
theorem atI_l9 {α : Type} (xs : List α) : atI xs 9 = xs[9]? := atI_nth xs 9
theorem atI_l10 {α : Type} (xs : List α) : atI xs 10 = xs[10]? := atI_nth xs 10
theorem atI_l11 {α : Type} (xs : List α) : atI xs 11 = xs[11]? := atI_nth xs 11
theorem atI_l12 {α : Type} (xs : List α) : atI xs 12 = xs[12]? := atI_nth xs 12
/-! ### sizes -/
/-- few bits -/
def Sz (n : Nat) (x : Int) : Prop := x.natAbs < 2 ^ n
theorem Sz.mono {n m : Nat} {x : Int} (h : Sz n x) (hm : n ≤ m) : Sz m x := Nat.lt_of_lt_of_le h (Nat.pow_le_pow_right (by decide) hm)
theorem Sz.neg {n : Nat} {x : Int} (h : Sz n x) : Sz n (-x) := by
  unfold Sz
  rw [Int.natAbs_neg]
  exact h
theorem Sz.abs {n : Nat} {x : Int} (h : Sz n x) : Sz n (if x < 0 then -x else x) := by
  split
  · exact h.neg
  · exact h
theorem Sz.mul {n m : Nat} {x y : Int} (h : Sz n x) (h' : Sz m y) : Sz (n + m) (x * y) := by
  unfold Sz at *
  rw [Int.natAbs_mul, Nat.pow_add]
  have := Nat.two_pow_pos n
  have := Nat.two_pow_pos m
  exact Nat.mul_lt_mul'' h h'
theorem Sz.add {n : Nat} {x y : Int} (h : Sz n x) (h' : Sz n y) : Sz (n + 1) (x + y) := by
  unfold Sz at *
  rw [Nat.pow_succ]
  omega
theorem Sz.sub {n : Nat} {x y : Int} (h : Sz n x) (h' : Sz n y) : Sz (n + 1) (x - y) := by
  unfold Sz at *
  rw [Nat.pow_succ]
  omega
theorem Sz.log {n : Nat} {x : Int} (h : Sz n x) (hn : 0 < n) : x.natAbs.log2 < n := by
  unfold Sz at h
  by_cases e : x.natAbs = 0
  · rw [e]
    simpa using hn
  · exact (Nat.log2_lt e).mpr h
theorem Sz.fdiv {n : Nat} {x y : Int} (h : Sz n x) : Sz n (x.fdiv y) ∨ x < 0 ∨ y < 0 := by
  by_cases hx : x < 0
  · exact .inr (.inl hx)
  by_cases hy : y < 0
  · exact .inr (.inr hy)
  left
  unfold Sz at *
  rw [Int.fdiv_eq_ediv_of_nonneg _ (by omega)]
  exact Nat.lt_of_le_of_lt (Int.natAbs_ediv_le_natAbs _ _) h
theorem Sz.le {n : Nat} {x y : Int} (h : Sz n x) (h' : y.natAbs ≤ x.natAbs) : Sz n y := Nat.lt_of_le_of_lt h' h
theorem mulW {n m : Nat} {x y : Int} (h : Sz n x) (h' : Sz m y) (e : n + m ≤ 1000000) (hn : 0 < n := by decide) (hm : 0 < m := by decide) : CMul x y ∨ CMulW x y := by
  have h1 := h.log hn
  have h2 := h'.log hm
  exact .inr (show x.natAbs.log2 + y.natAbs.log2 < 1000000 by omega)
theorem divW {n : Nat} {x y : Int} (h : Sz n y) (h0 : y ≠ 0) (e : n ≤ 9000) (hn : 0 < n := by decide) : CDivG x y := ⟨h0, Nat.lt_of_lt_of_le (h.log hn) e⟩
theorem mulR {x y : Int} (h : -(2 ^ 64) < y ∧ y < 2 ^ 64) : CMul x y ∨ CMulW x y := .inl (.inr h)
theorem mulL {x y : Int} (h : -(2 ^ 64) < x ∧ x < 2 ^ 64) : CMul x y ∨ CMulW x y := .inl (.inl h)
theorem divR {x y : Int} (h0 : y ≠ 0) (h : y.natAbs < 2 ^ 9000) : CDivG x y := divW (n := 9000) h h0 (by decide)
theorem powC {x y : Int} (h0 : 0 ≤ y := by decide) (h : (Builtin.Int.intBits x : Int) * y ≤ 2 ^ 27 := by decide) : CPowW x y := ⟨h0, h⟩
theorem qLoop_nil (i : Nat) (q : QS) (D : QD) (ρ : PSt) : qLoop i q D [] ρ = D.nx ρ := rfl
theorem qLoop_cons (i : Nat) (q : QS) (D : QD) (x : PV) (xs : List PV) (ρ : PSt) : qLoop i q D (x :: xs) ρ = q { D with nx := fun ρ' => qLoop i q D xs ρ', ct := fun ρ' => qLoop i q D xs ρ', bk := D.nx } (ρ.set i (some (.pv x))) := rfl
theorem Sz.emod {n : Nat} {x y : Int} (h : Sz n y) (hy : 0 < y) : Sz n (x % y) := by
  have h1 := Int.emod_nonneg x (Int.ne_of_gt hy)
  have h2 := Int.emod_lt_of_pos x hy
  exact h.le (by omega)
theorem sz_small {n : Nat} {x : Int} (h1 : -32 ≤ x) (h2 : x ≤ 32) (hn : 6 ≤ n) : Sz n x := by
  have : Sz 6 x := by
    unfold Sz
    omega
  exact this.mono hn
theorem atI_ints {ns : List Int} {k : Int} (h0 : 0 ≤ k) (h1 : k < ns.length) : ∃ z, atI (ns.map PV.int) k = some (.int z) := by
  obtain ⟨n, rfl⟩ := Int.eq_ofNat_of_zero_le h0
  have h1 : n < ns.length := by omega
  exact ⟨ns[n], by rw [atI_nth, List.getElem?_map, List.getElem?_eq_getElem h1]; rfl⟩
end QL

namespace QL
open PySem PySem.Spec PyProof.Rows L2
/-! ### lowest terms -/
abbrev rat (C : Addr) (t b : Int) : PV := .obj C [("top", .int t), ("bottom", .int b)]
def gcdZ (a b : Int) : Int := ((Nat.gcd a.natAbs b.natAbs : Nat) : Int)
def sharedN : List Int → Int → Int
  | [], p => p
  | t :: ts, p => if p = 1 then p else sharedN ts (gcdZ p t)
def shared (ts : List Int) (b : Int) : Int := if b > 0 then sharedN ts (if b < 0 then -b else b) else -sharedN ts (if b < 0 then -b else b)
def nT (t b : Int) : Int := t.fdiv (shared [t] b)
def nB (t b : Int) : Int := b.fdiv (shared [t] b)
/-- lowest terms -/
def Low (t b : Int) : Prop := 0 < b ∧ nT t b = t ∧ nB t b = b
theorem sharedN1 (t p : Int) : sharedN [t] p = gcdZ p t := by
  show (if p = 1 then p else gcdZ p t) = gcdZ p t
  split
  · rename_i h
    subst h
    show (1 : Int) = ((Nat.gcd 1 t.natAbs : Nat) : Int)
    rw [Nat.gcd_one_left]
    rfl
  · rfl
theorem gcdZ_abs (b t : Int) : gcdZ (if b < 0 then -b else b) t = gcdZ t b := by
  unfold gcdZ
  rw [Nat.gcd_comm]
  congr 2
  split
  · exact Int.natAbs_neg b
  · rfl
theorem shared1 (t b : Int) : shared [t] b = if b > 0 then gcdZ t b else -gcdZ t b := by
  unfold shared
  rw [sharedN1, gcdZ_abs]
theorem gcdZ_pos {t b : Int} (hb : b ≠ 0) : 0 < gcdZ t b := by
  have : 0 < Nat.gcd t.natAbs b.natAbs := Nat.gcd_pos_of_pos_right _ (by omega)
  unfold gcdZ
  omega
theorem sh_abs (t b : Int) : (shared [t] b).natAbs = Nat.gcd t.natAbs b.natAbs := by
  rw [shared1]
  split
  · rfl
  · rw [Int.natAbs_neg]; rfl
theorem sh_ne {t b : Int} (hb : b ≠ 0) : shared [t] b ≠ 0 := by
  have := sh_abs t b
  have h2 : 0 < Nat.gcd t.natAbs b.natAbs := Nat.gcd_pos_of_pos_right _ (by omega)
  omega
theorem sh_sz {n : Nat} {t b : Int} (h : Sz n b) (hb : b ≠ 0) : Sz n (shared [t] b) := by
  refine h.le ?_
  rw [sh_abs]
  exact Nat.gcd_le_right _ (by omega)
theorem sh_dvd_t (t b : Int) : shared [t] b ∣ t := by
  rw [← Int.natAbs_dvd_natAbs, sh_abs]
  exact Nat.gcd_dvd_left _ _
theorem sh_dvd_b (t b : Int) : shared [t] b ∣ b := by
  rw [← Int.natAbs_dvd_natAbs, sh_abs]
  exact Nat.gcd_dvd_right _ _
theorem fdiv_mul {x s : Int} (h : s ∣ x) : x.fdiv s * s = x := by
  rw [Int.fdiv_eq_ediv_of_dvd h]
  exact Int.ediv_mul_cancel h
theorem nT_mul (t b : Int) : nT t b * shared [t] b = t := fdiv_mul (sh_dvd_t t b)
theorem nB_mul (t b : Int) : nB t b * shared [t] b = b := fdiv_mul (sh_dvd_b t b)
theorem pos_fac {x g : Int} (h : 0 < x * g) (hg : 0 < g) : 0 < x := by
  refine Int.not_le.mp fun hx => ?_
  have := Int.mul_le_mul_of_nonneg_right hx (Int.le_of_lt hg)
  rw [Int.zero_mul] at this
  omega
theorem nB_pos {t b : Int} (hb : b ≠ 0) : 0 < nB t b := by
  have h := nB_mul t b
  have h1 := shared1 t b
  have g := gcdZ_pos (t := t) hb
  by_cases hp : b > 0
  · rw [if_pos hp] at h1
    rw [h1] at h
    exact pos_fac (by rw [h]; exact hp) g
  · rw [if_neg hp] at h1
    rw [h1] at h
    have : nB t b * gcdZ t b > 0 := by
      rw [Int.mul_neg] at h
      omega
    exact pos_fac this g
theorem le_of_mul {x s y : Int} (h : x * s = y) (hs : s ≠ 0) : x.natAbs ≤ y.natAbs := by
  rw [← h, Int.natAbs_mul]
  exact Nat.le_mul_of_pos_right _ (by omega)
theorem nT_sz {n : Nat} {t b : Int} (h : Sz n t) (hb : b ≠ 0) : Sz n (nT t b) := h.le (le_of_mul (nT_mul t b) (sh_ne hb))
theorem nB_sz {n : Nat} {t b : Int} (h : Sz n b) (hb : b ≠ 0) : Sz n (nB t b) := h.le (le_of_mul (nB_mul t b) (sh_ne hb))
theorem low_co {p q : Int} (hq : 0 < q) (h : Nat.gcd p.natAbs q.natAbs = 1) : Low p q := by
  have e : shared [p] q = 1 := by
    rw [shared1, if_pos hq]
    unfold gcdZ
    rw [h]
    rfl
  refine ⟨hq, ?_, ?_⟩
  · unfold nT
    rw [e, Int.fdiv_one]
  · unfold nB
    rw [e, Int.fdiv_one]
theorem Low.co {p q : Int} (h : Low p q) : Nat.gcd p.natAbs q.natAbs = 1 := by
  obtain ⟨h1, h2, h3⟩ := h
  have h4 := nB_mul p q
  rw [h3] at h4
  have h5 : (shared [p] q).natAbs = 1 := by
    have := congrArg Int.natAbs h4
    rw [Int.natAbs_mul] at this
    have hq0 : 0 < q.natAbs := Int.natAbs_pos.mpr (by intro z; rw [z] at h1; exact absurd h1 (by decide))
    exact Nat.eq_of_mul_eq_mul_left hq0 (this.trans (Nat.mul_one _).symm)
  rw [sh_abs] at h5
  exact h5
theorem n_co {t b : Int} (hb : b ≠ 0) : Nat.gcd (nT t b).natAbs (nB t b).natAbs = 1 := by
  have h1 := congrArg Int.natAbs (nT_mul t b)
  have h2 := congrArg Int.natAbs (nB_mul t b)
  rw [Int.natAbs_mul] at h1 h2
  have h3 : Nat.gcd ((nT t b).natAbs * (shared [t] b).natAbs) ((nB t b).natAbs * (shared [t] b).natAbs) = (shared [t] b).natAbs := by
    rw [h1, h2, sh_abs]
  rw [Nat.gcd_mul_right] at h3
  have h4 : 0 < (shared [t] b).natAbs := by
    have := sh_ne (t := t) hb
    omega
  exact Nat.eq_of_mul_eq_mul_right h4 (by omega)
theorem low_n {t b : Int} (hb : b ≠ 0) : Low (nT t b) (nB t b) := low_co (nB_pos hb) (n_co hb)
theorem Low.neg {p q : Int} (h : Low p q) : Low (-p) q := low_co h.1 (by rw [Int.natAbs_neg]; exact h.co)
theorem low_1 (t : Int) : Low t 1 := low_co (by decide) (by show Nat.gcd t.natAbs 1 = 1; exact Nat.gcd_one_right _)
theorem n_0 {b : Int} (hb : b ≠ 0) : nT 0 b = 0 ∧ nB 0 b = 1 := by
  have h1 := nT_mul 0 b
  have h2 : nT 0 b = 0 := by
    rcases Int.mul_eq_zero.mp h1 with h | h
    · exact h
    · exact absurd h (sh_ne hb)
  refine ⟨h2, ?_⟩
  have h3 := n_co (t := 0) hb
  rw [h2] at h3
  have h4 := nB_pos (t := 0) hb
  have h5 : Nat.gcd 0 (nB 0 b).natAbs = (nB 0 b).natAbs := Nat.gcd_zero_left _
  have h6 : (nB 0 b).natAbs = 1 := by
    rw [← h5]
    exact h3
  omega
theorem shared_neg (t b : Int) : shared [-t] b = shared [t] b := by
  rw [shared1, shared1]
  unfold gcdZ
  rw [Int.natAbs_neg]
theorem nT_neg (t b : Int) : nT (-t) b = -nT t b := by
  unfold nT
  rw [shared_neg, Int.fdiv_eq_ediv_of_dvd (sh_dvd_t t b), Int.fdiv_eq_ediv_of_dvd (Int.dvd_neg.mpr (sh_dvd_t t b)), Int.neg_ediv_of_dvd (sh_dvd_t t b)]
theorem nB_neg (t b : Int) : nB (-t) b = nB t b := by
  unfold nB
  rw [shared_neg]
theorem sub_comm' (x z : Int) : z - x = -(x - z) := by omega
/-! ### Euclid's turns -/
theorem bits_lt (n : Nat) : n < 2 ^ Builtin.Int.intBits (n : Int) := by
  unfold Builtin.Int.intBits
  split
  · rename_i h
    have h : n = 0 := by simpa using h
    subst h
    decide
  · simp only [Int.natAbs_natCast]
    exact Nat.lt_log2_self
theorem euc_step {m n k B : Nat} (h1 : n < m) (h2 : m * n * 2 ^ k < B) (hn : n ≠ 0) : m % n < n ∧ n * (m % n) * 2 ^ (k + 1) < B ∧ Nat.gcd n (m % n) = Nat.gcd m n := by
  have hl : m % n < n := Nat.mod_lt _ (by omega)
  refine ⟨hl, ?_, ?_⟩
  · have h3 : 2 * (m % n) ≤ m := by
      have e := Nat.div_add_mod m n
      have d : 1 ≤ m / n := Nat.div_pos (Nat.le_of_lt h1) (by omega)
      have : n * 1 ≤ n * (m / n) := Nat.mul_le_mul_left _ d
      omega
    calc n * (m % n) * 2 ^ (k + 1) = n * (2 * (m % n)) * 2 ^ k := by rw [Nat.pow_succ]; simp only [Nat.mul_assoc, Nat.mul_comm, Nat.mul_left_comm]
      _ ≤ n * m * 2 ^ k := Nat.mul_le_mul_right _ (Nat.mul_le_mul_left _ h3)
      _ = m * n * 2 ^ k := by rw [Nat.mul_comm n m]
      _ < B := h2
  · rw [Nat.gcd_comm n, ← Nat.gcd_rec, Nat.gcd_comm]
theorem euc_first {m n b : Nat} (hn : n ≠ 0) (h : n < 2 ^ b) : m % n < n ∧ n * (m % n) * 2 ^ 0 < 2 ^ (2 * b) ∧ Nat.gcd n (m % n) = Nat.gcd m n := by
  have hl : m % n < n := Nat.mod_lt _ (by omega)
  refine ⟨hl, ?_, ?_⟩
  · rw [Nat.pow_zero, Nat.mul_one, Nat.two_mul, Nat.pow_add]
    exact Nat.mul_lt_mul'' h (Nat.lt_trans hl h)
  · rw [Nat.gcd_comm n, ← Nat.gcd_rec, Nat.gcd_comm]
theorem euc_end {m n b : Nat} (h1 : n < m) (h2 : m * n * 2 ^ (2 * b + 1) < 2 ^ (2 * b)) : n = 0 := by
  by_cases e : n = 0
  · exact e
  · have : 1 ≤ m * n := Nat.mul_pos (by omega) (by omega)
    have h3 : 1 * 2 ^ (2 * b + 1) ≤ m * n * 2 ^ (2 * b + 1) := Nat.mul_le_mul_right _ this
    have h4 : 2 ^ (2 * b) ≤ 2 ^ (2 * b + 1) := Nat.pow_le_pow_right (by decide) (by omega)
    omega
end QL

namespace QL
open PySem PySem.Spec PyProof.Rows L2
/-! ### the equations at full arity (printed by eqgen.py) -/
theorem qVar_eq (i : Nat) (ρ : PSt) (u0 : Y) (Q : PV → Prop) : qVar i ρ u0 Q = (match ρ[i]? with
  | some (some (.pv x)) => Q x
  | _ => False) := rfl
theorem qC_eq (x : PV) (u0 : PSt) (u1 : Y) (Q : PV → Prop) : qC x u0 u1 Q = (Q x) := rfl
theorem qOp_eq (r : Q2) (qa qb : QE) (ρ : PSt) (y : Y) (Q : PV → Prop) : qOp r qa qb ρ y Q = (qa ρ y fun x => qb ρ y fun z => r x z Q) := rfl
theorem qI_eq (C : Int → Int → Prop) (g : Int → Int → PV) (x : PV) (z : PV) (Q : PV → Prop) : qI C g x z Q = (match x, z with
  | .int i, .int j => C i j ∧ Q (g i j)
  | _, _ => False) := rfl
theorem qI0_eq (g : Int → Int → PV) (x : PV) (z : PV) (Q : PV → Prop) : qI0 g x z Q = (match x, z with
  | .int i, .int j => Q (g i j)
  | _, _ => False) := rfl
theorem qEq_eq (neg : Bool) (x : PV) (z : PV) (Q : PV → Prop) : qEq neg x z Q = (match x, z with
  | .int i, .int j => Q (.bl (neg ^^ (i == j)))
  | .str i, .str j => Q (.bl (neg ^^ (i == j)))
  | .bl i, .bl j => Q (.bl (neg ^^ (i == j)))
  | _, _ => False) := rfl
theorem qIsN_eq (neg : Bool) (x : PV) (z : PV) (Q : PV → Prop) : qIsN neg x z Q = (match x, z with
  | .non, .non => Q (.bl (!neg))
  | .lst _, .non => Q (.bl neg)
  | .tup _, .non => Q (.bl neg)
  | .obj _ _, .non => Q (.bl neg)
  | .int _, .non => Q (.bl neg)
  | .str _, .non => Q (.bl neg)
  | .bl _, .non => Q (.bl neg)
  | _, _ => False) := rfl
theorem qUn_eq (r : PV → (PV → Prop) → Prop) (qa : QE) (ρ : PSt) (y : Y) (Q : PV → Prop) : qUn r qa ρ y Q = (qa ρ y fun x => r x Q) := rfl
theorem qNeg_eq  (x : PV) (Q : PV → Prop) : qNeg  x Q = (match x with
  | .int i => Q (.int (-i))
  | _ => False) := rfl
theorem qB_eq (qa : QE) (ρ : PSt) (y : Y) (Q : Bool → Prop) : qB qa ρ y Q = (qa ρ y fun x => match x with
  | .bl b => Q b
  | _ => False) := rfl
theorem qNotT_eq (q : QT) (ρ : PSt) (y : Y) (Q : Bool → Prop) : qNotT q ρ y Q = (q ρ y fun b => Q (!b)) := rfl
theorem qAndT_eq (q r : QT) (ρ : PSt) (y : Y) (Q : Bool → Prop) : qAndT q r ρ y Q = (q ρ y fun b => if b = true then r ρ y Q else Q false) := rfl
theorem qOrT_eq (q r : QT) (ρ : PSt) (y : Y) (Q : Bool → Prop) : qOrT q r ρ y Q = (q ρ y fun b => if b = true then Q true else r ρ y Q) := rfl
theorem qAndV_eq (q r : QE) (ρ : PSt) (y : Y) (Q : PV → Prop) : qAndV q r ρ y Q = (q ρ y fun x => match x with
  | .bl b => if b = true then r ρ y Q else Q (.bl false)
  | _ => False) := rfl
theorem qOrV_eq (q r : QE) (ρ : PSt) (y : Y) (Q : PV → Prop) : qOrV q r ρ y Q = (q ρ y fun x => match x with
  | .bl b => if b = true then Q (.bl true) else r ρ y Q
  | _ => False) := rfl
theorem qNotV_eq (q : QE) (ρ : PSt) (y : Y) (Q : PV → Prop) : qNotV q ρ y Q = (q ρ y fun x => match x with
  | .bl b => Q (.bl (!b))
  | _ => False) := rfl
theorem qIf_eq (c : QT) (q r : QE) (ρ : PSt) (y : Y) (Q : PV → Prop) : qIf c q r ρ y Q = (c ρ y fun b => if b = true then q ρ y Q else r ρ y Q) := rfl
theorem qNil_eq  (u0 : PSt) (u1 : Y) (Q : List PV → Prop) : qNil  u0 u1 Q = (Q []) := rfl
theorem qCons_eq (q : QE) (r : QA) (ρ : PSt) (y : Y) (Q : List PV → Prop) : qCons q r ρ y Q = (q ρ y fun x => r ρ y fun xs => Q (x :: xs)) := rfl
theorem qTup_eq (q : QA) (ρ : PSt) (y : Y) (Q : PV → Prop) : qTup q ρ y Q = (q ρ y fun xs => xs.length ≤ 1000 ∧ Q (.tup xs)) := rfl
theorem qLst_eq (q : QA) (ρ : PSt) (y : Y) (Q : PV → Prop) : qLst q ρ y Q = (q ρ y fun xs => xs.length ≤ 1000 ∧ Q (.lst xs)) := rfl
theorem qPart_eq (q : QE) (ρ : PSt) (y : Y) (Q : Option Int → Prop) : qPart q ρ y Q = (q ρ y fun x => match x with
  | .int i => Q (some i)
  | _ => False) := rfl
theorem qNoPart_eq  (u0 : PSt) (u1 : Y) (Q : Option Int → Prop) : qNoPart  u0 u1 Q = (Q none) := rfl
theorem qSl_eq (q : QE) (ql qh : QO) (ρ : PSt) (y : Y) (Q : PV → Prop) : qSl q ql qh ρ y Q = (q ρ y fun x => ql ρ y fun lo => qh ρ y fun hi => match x with
  | .lst xs => Q (.lst (cutP xs lo hi))
  | _ => False) := rfl
theorem qNext_eq  (D : QD) (ρ : PSt) : qNext  D ρ = (D.nx ρ) := rfl
theorem qSeq_eq (q r : QS) (D : QD) (ρ : PSt) : qSeq q r D ρ = (q { D with nx := fun ρ' => r D ρ' } ρ) := rfl
theorem qBreak_eq  (D : QD) (ρ : PSt) : qBreak  D ρ = (D.bk ρ) := rfl
theorem qCont_eq  (D : QD) (ρ : PSt) : qCont  D ρ = (D.ct ρ) := rfl
theorem qDrop_eq (q : QE) (D : QD) (ρ : PSt) : qDrop q D ρ = (q ρ (D.ex ρ) fun _ => D.nx ρ) := rfl
theorem qRet_eq (q : QE) (D : QD) (ρ : PSt) : qRet q D ρ = (q ρ (D.ex ρ) D.rt) := rfl
theorem qRetN_eq  (D : QD) (u0 : PSt) : qRetN  D u0 = (D.rt .non) := rfl
theorem qIfS_eq (c : QT) (q r : QS) (D : QD) (ρ : PSt) : qIfS c q r D ρ = (c ρ (D.ex ρ) fun b => if b = true then q D ρ else r D ρ) := rfl
theorem qNever_eq  (u0 : QD) (u1 : PSt) : qNever  u0 u1 = (False) := rfl
theorem qSet_eq (i : Nat) (q : QE) (D : QD) (ρ : PSt) : qSet i q D ρ = (q ρ (D.ex ρ) fun x => D.nx (ρ.set i (some (.pv x)))) := rfl
theorem qOwn_eq (i : Nat) (q : QA) (D : QD) (ρ : PSt) : qOwn i q D ρ = (q ρ (D.ex ρ) fun xs => xs.length ≤ 1000 ∧ D.nx (ρ.set i (some (.own xs)))) := rfl
theorem qFreeze_eq (i : Nat) (q : QS) (D : QD) (ρ : PSt) : qFreeze i q D ρ = (match ρ[i]? with
  | some (some (.own xs)) => q D (ρ.set i (some (.pv (.lst xs))))
  | _ => False) := rfl
theorem qApp_eq (i : Nat) (q : QE) (D : QD) (ρ : PSt) : qApp i q D ρ = (match ρ[i]? with
  | some (some (.own xs)) => xs.length < 10000 ∧ q ρ (D.ex ρ) fun x => D.nx (ρ.set i (some (.own (xs ++ [x]))))
  | _ => False) := rfl
theorem qPar_eq (i j : Nat) (q : QA) (D : QD) (ρ : PSt) : qPar i j q D ρ = (q ρ (D.ex ρ) fun xs => match xs with
  | [x, z] => D.nx ((ρ.set i (some (.pv x))).set j (some (.pv z)))
  | _ => False) := rfl
theorem qUnp_eq (is : List Nat) (q : QE) (D : QD) (ρ : PSt) : qUnp is q D ρ = (q ρ (D.ex ρ) fun x => match x with
  | .tup xs => xs.length = is.length ∧ D.nx (setAll ρ is xs)
  | _ => False) := rfl
theorem qUnpL_eq (is : List Nat) (q : QE) (D : QD) (ρ : PSt) : qUnpL is q D ρ = (q ρ (D.ex ρ) fun x => match x with
  | .lst xs => xs.length = is.length ∧ D.nx (setAll ρ is xs)
  | _ => False) := rfl
theorem qFldS_eq (i : Nat) (f : Str) (C : Addr) (q : QE) (D : QD) (ρ : PSt) : qFldS i f C q D ρ = (match ρ[i]? with
  | some (some (.ins a C' fs)) => C' = C ∧ fs.length < 900 ∧ q ρ (D.ex ρ) fun x => D.nx (ρ.set i (some (.ins a C (putP f x fs))))
  | _ => False) := rfl
theorem qForL_eq (i : Nat) (qi : QE) (q : QS) (D : QD) (ρ : PSt) : qForL i qi q D ρ = (qi ρ (D.ex ρ) fun x => match x with
  | .lst xs => qLoop i q D xs ρ
  | _ => False) := rfl
theorem qForT_eq (i : Nat) (qi : QE) (q : QS) (D : QD) (ρ : PSt) : qForT i qi q D ρ = (qi ρ (D.ex ρ) fun x => match x with
  | .tup xs => qLoop i q D xs ρ
  | _ => False) := rfl
theorem qForR1_eq (i : Nat) (qa : QA) (q : QS) (D : QD) (ρ : PSt) : qForR1 i qa q D ρ = (qa ρ (D.ex ρ) fun xs => match xs with
  | [.int n] => -(2 ^ 62) ≤ n ∧ n < 2 ^ 62 ∧ qLoop i q D (rangeP 0 n.toNat) ρ
  | _ => False) := rfl
theorem qForR2_eq (i : Nat) (qa : QA) (q : QS) (D : QD) (ρ : PSt) : qForR2 i qa q D ρ = (qa ρ (D.ex ρ) fun xs => match xs with
  | [.int lo, .int hi] => (-(2 ^ 62) ≤ lo ∧ lo < 2 ^ 62 ∧ -(2 ^ 62) ≤ hi ∧ hi < 2 ^ 62) ∧ qLoop i q D (rangeP lo (hi - lo).toNat) ρ
  | _ => False) := rfl
theorem qCall_eq (P : PSpec) (dps : List PV) (qa : QA) (ρ : PSt) (y : Y) (Q : PV → Prop) : qCall P dps qa ρ y Q = (qa ρ y fun xs => P (xs ++ dps) y Q) := rfl
theorem qMake_eq (C : Addr) (P : ISpec) (dps : List PV) (qa : QA) (ρ : PSt) (y : Y) (Q : PV → Prop) : qMake C P dps qa ρ y Q = (qa ρ y fun xs => P (xs ++ dps) y fun fs => Q (.obj C fs)) := rfl
theorem qMeth_eq (C : Addr) (m : Str) (P : PSpec) (dps : List PV) (qo : QE) (qa : QA) (ρ : PSt) (y : Y) (Q : PV → Prop) : qMeth C m P dps qo qa ρ y Q = (qo ρ y fun x => match x with
  | .obj C' fs => C' = C ∧ fs.lookup m = none ∧ qa ρ y fun xs => P (.obj C' fs :: (xs ++ dps)) y Q
  | _ => False) := rfl
theorem qProp_eq (C : Addr) (P : PSpec) (qo : QE) (ρ : PSt) (y : Y) (Q : PV → Prop) : qProp C P qo ρ y Q = (qo ρ y fun x => match x with
  | .obj C' fs => C' = C ∧ P [.obj C' fs] (fun _ => False) Q
  | _ => False) := rfl
theorem qCB_eq (r : Q1) (qa : QA) (ρ : PSt) (y : Y) (Q : PV → Prop) : qCB r qa ρ y Q = (qa ρ y fun xs => r xs Q) := rfl
theorem cAbs_eq  (xs : List PV) (Q : PV → Prop) : cAbs  xs Q = (match xs with
  | [.int i] => Q (.int (if i < 0 then -i else i))
  | _ => False) := rfl
theorem cInt_eq  (xs : List PV) (Q : PV → Prop) : cInt  xs Q = (match xs with
  | [.int i] => Q (.int i)
  | [.bl b] => Q (.int (if b then 1 else 0))
  | _ => False) := rfl
theorem cGcd_eq  (xs : List PV) (Q : PV → Prop) : cGcd  xs Q = (match xs with
  | [.int i, .int j] => Q (.int ((Nat.gcd i.natAbs j.natAbs : Nat) : Int))
  | _ => False) := rfl
theorem cLen_eq  (xs : List PV) (Q : PV → Prop) : cLen  xs Q = (match xs with
  | [.lst ys] => Q (.int ys.length)
  | [.tup ys] => Q (.int ys.length)
  | _ => False) := rfl
theorem cLenS_eq  (xs : List PV) (Q : PV → Prop) : cLenS  xs Q = (match xs with
  | [.str z] => z.length ≤ 100000 ∧ Q (.int z.length)
  | _ => False) := rfl
theorem qBits_eq (q : QE) (ρ : PSt) (y : Y) (Q : PV → Prop) : qBits q ρ y Q = (q ρ y fun x => match x with
  | .int i => Q (.int (Builtin.Int.intBits i : Nat))
  | _ => False) := rfl
theorem qIsi_eq (r : PV → Option Bool) (q : QE) (ρ : PSt) (y : Y) (Q : PV → Prop) : qIsi r q ρ y Q = (q ρ y fun x => match r x with
  | some b => Q (.bl b)
  | none => False) := rfl
theorem qBin_eq (C : Addr) (P : PSpec) (qa qb : QE) (ρ : PSt) (y : Y) (Q : PV → Prop) : qBin C P qa qb ρ y Q = (qa ρ y fun x => qb ρ y fun z => match x, z with
  | .obj C1 fs, .obj C2 gs => C1 = C ∧ C2 = C ∧ P [.obj C1 fs, .obj C2 gs] y Q
  | _, _ => False) := rfl
theorem qUna_eq (C : Addr) (P : PSpec) (qa : QE) (ρ : PSt) (y : Y) (Q : PV → Prop) : qUna C P qa ρ y Q = (qa ρ y fun x => match x with
  | .obj C1 fs => C1 = C ∧ P [.obj C1 fs] (fun _ => False) Q
  | _ => False) := rfl
theorem cAbsO_eq (C : Addr) (P : PSpec) (xs : List PV) (Q : PV → Prop) : cAbsO C P xs Q = (match xs with
  | [.obj C1 fs] => C1 = C ∧ P [.obj C1 fs] (fun _ => False) Q
  | _ => False) := rfl
theorem qEqO_eq (C : Addr) (nf : PV → Bool) (neg : Bool) (P : PSpec) (qa qb : QE) (ρ : PSt) (y : Y) (Q : PV → Prop) : qEqO C nf neg P qa qb ρ y Q = (qa ρ y fun x => qb ρ y fun z => match x with
  | .obj C1 fs => C1 = C ∧ nf z = true ∧ P [.obj C1 fs, z] (fun _ => False) fun r => match r with
    | .bl k => Q (.bl (neg ^^ k))
    | _ => False
  | _ => False) := rfl
theorem qRaise_eq (C : Addr) (n : Nat) (Fp : List PV → List (Str × PV)) (qa : QA) (D : QD) (ρ : PSt) : qRaise C n Fp qa D ρ = (qa ρ (D.ex ρ) fun xs => xs.length = n ∧ D.ex ρ ⟨C, Fp xs⟩) := rfl
theorem qTry_eq (r : Addr → Option Bool) (i : Nat) (qb : QS) (qs : Addr → Value → Option Addr → QS) (D : QD) (ρ : PSt) : qTry r i qb qs D ρ = (qb (tryD r i qs D) ρ) := rfl
theorem qXi_eq (a : Addr) (cls : Value) (d : Option Addr) (i : Nat) (r : Addr → Option Bool) (ρ : PSt) (u0 : Y) (Q : PV → Prop) : qXi a cls d i r ρ u0 Q = (match ρ[i]? with
  | some (some (.exc a' d' C fs)) => a' = a ∧ cls = .ref C ∧ d = some d' ∧ (match r C with
    | some b => Q (.bl b)
    | none => False)
  | _ => False) := rfl
theorem qLenO_eq (i : Nat) (ρ : PSt) (u0 : Y) (Q : PV → Prop) : qLenO i ρ u0 Q = (match ρ[i]? with
  | some (some (.own xs)) => Q (.int xs.length)
  | _ => False) := rfl
theorem qForR3_eq (i : Nat) (qa : QA) (q : QS) (D : QD) (ρ : PSt) : qForR3 i qa q D ρ = (qa ρ (D.ex ρ) fun xs => match xs with
  | [.int lo, .int hi, .int c] => ∃ n, RgC lo hi c n ∧ qLoop i q D (rangeC lo c n) ρ
  | _ => False) := rfl
theorem ex_some {α : Type} {o : Option α} {P : α → Prop} : (∃ u, o = some u ∧ P u) = (match o with
  | some u => P u
  | none => False) := by
  cases o with
  | none => exact propext ⟨fun ⟨_, h, _⟩ => (nomatch h), False.elim⟩
  | some u => exact propext ⟨fun ⟨_, h, p⟩ => by cases h; exact p, fun p => ⟨u, rfl, p⟩⟩
theorem ex_s {α : Type} {u : α} {P : α → Prop} : (∃ v, some u = some v ∧ P v) = P u := propext ⟨fun ⟨_, h, p⟩ => by cases h; exact p, fun p => ⟨u, rfl, p⟩⟩
theorem ex_n {α : Type} {P : α → Prop} : (∃ v, none = some v ∧ P v) = False := propext ⟨fun ⟨_, h, _⟩ => (nomatch h), False.elim⟩
theorem qIx_l (xs : List PV) (i : Int) (Q : PV → Prop) : qIx (.lst xs) (.int i) Q = (match atI xs i with
  | some u => Q u
  | none => False) := by
  show (∃ u, atI xs i = some u ∧ Q u) = _
  cases atI xs i
  · exact ex_n
  · exact ex_s
theorem qIx_t (xs : List PV) (i : Int) (Q : PV → Prop) : qIx (.tup xs) (.int i) Q = (match atI xs i with
  | some u => Q u
  | none => False) := by
  show (∃ u, atI xs i = some u ∧ Q u) = _
  cases atI xs i
  · exact ex_n
  · exact ex_s
theorem qFld_eq (C : Addr) (f : Str) (qo : QE) (ρ : PSt) (y : Y) (Q : PV → Prop) : qFld C f qo ρ y Q = qo ρ y (fun x => match x with
  | .obj C' fs => C' = C ∧ (match fs.lookup f with
    | some u => Q u
    | none => False)
  | _ => False) := by
  refine congrArg (qo ρ y) (funext fun x => ?_)
  cases x <;> try rfl
  rename_i C' fs
  refine congrArg (And (C' = C)) ?_
  cases fs.lookup f
  · exact ex_n
  · exact ex_s
theorem qXf_eq (a : Addr) (cls : Value) (d : Option Addr) (i : Nat) (ok : Addr → Bool) (f : Str) (ρ : PSt) (y : Y) (Q : PV → Prop) : qXf a cls d i ok f ρ y Q = (match ρ[i]? with
  | some (some (.exc a' d' C fs)) => a' = a ∧ cls = .ref C ∧ d = some d' ∧ ok C = true ∧ (match fs.lookup f with
    | some u => Q u
    | none => False)
  | _ => False) := by
  unfold qXf
  cases ρ[i]? with
  | none => rfl
  | some o =>
    cases o with
    | none => rfl
    | some s =>
      cases s <;> try rfl
      rename_i a' d' C fs
      refine congrArg (And (a' = a)) (congrArg (And (cls = .ref C)) (congrArg (And (d = some d')) (congrArg (And (ok C = true)) ?_)))
      cases fs.lookup f
      · exact ex_n
      · exact ex_s
theorem qSetIx_eq (i : Nat) (qk q : QE) (D : QD) (ρ : PSt) : qSetIx i qk q D ρ = (match ρ[i]? with
  | some (some (.own xs)) => q ρ (D.ex ρ) fun x => qk ρ (D.ex ρ) fun k => match k with
    | .int k => (match ixN xs.length k with
      | some j => D.nx (ρ.set i (some (.own (xs.set j x))))
      | none => False)
    | _ => False
  | _ => False) := by
  unfold qSetIx
  cases ρ[i]? with
  | none => rfl
  | some o =>
    cases o with
    | none => rfl
    | some s =>
      cases s <;> try rfl
      rename_i xs
      refine congrArg (q ρ (D.ex ρ)) (funext fun x => congrArg (qk ρ (D.ex ρ)) (funext fun k => ?_))
      cases k <;> try rfl
      rename_i k
      dsimp only
      cases ixN xs.length k
      · exact ex_n
      · exact ex_s
theorem qIxO_eq (i : Nat) (qk : QE) (ρ : PSt) (y : Y) (Q : PV → Prop) : qIxO i qk ρ y Q = (match ρ[i]? with
  | some (some (.own xs)) => qk ρ y fun k => match k with
    | .int k => (match atI xs k with
      | some u => Q u
      | none => False)
    | _ => False
  | _ => False) := by
  unfold qIxO
  cases ρ[i]? with
  | none => rfl
  | some o =>
    cases o with
    | none => rfl
    | some s =>
      cases s <;> try rfl
      rename_i xs
      refine congrArg (qk ρ y) (funext fun k => ?_)
      cases k <;> try rfl
      rename_i k
      dsimp only
      cases atI xs k
      · exact ex_n
      · exact ex_s
theorem qEqD_eq (neg : Bool) (x z : PV) (Q : PV → Prop) : qEqD neg x z Q = (match toD x, toD z with
  | some d, some e => SeqAt.shaped d = true ∧ SeqAt.shaped e = true ∧ Q (.bl (neg ^^ PyData.eqv d e))
  | _, _ => False) := by
  unfold qEqD
  cases h1 : toD x <;> cases h2 : toD z <;> simp
theorem tryD_nx (r : Addr → Option Bool) (i : Nat) (qs : Addr → Value → Option Addr → QS) (D : QD) : (tryD r i qs D).nx = D.nx := rfl
theorem tryD_rt (r : Addr → Option Bool) (i : Nat) (qs : Addr → Value → Option Addr → QS) (D : QD) : (tryD r i qs D).rt = D.rt := rfl
theorem tryD_bk (r : Addr → Option Bool) (i : Nat) (qs : Addr → Value → Option Addr → QS) (D : QD) : (tryD r i qs D).bk = D.bk := rfl
theorem tryD_ct (r : Addr → Option Bool) (i : Nat) (qs : Addr → Value → Option Addr → QS) (D : QD) : (tryD r i qs D).ct = D.ct := rfl
theorem tryD_ex (r : Addr → Option Bool) (i : Nat) (qs : Addr → Value → Option Addr → QS) (D : QD) (ρ : PSt) (p : PX) : (tryD r i qs D).ex ρ p = (match r p.C with
  | some true => ∀ a d, qs a (.ref p.C) (some d) { nx := fun ρ2 => D.nx (ρ2.set i none), rt := D.rt, bk := fun ρ2 => D.bk (ρ2.set i none), ct := fun ρ2 => D.ct (ρ2.set i none), ex := fun _ _ => False } (ρ.set i (some (.exc a d p.C p.fs)))
  | some false => D.ex ρ p
  | none => False) := by
  show (∃ b, _) = _
  rw [ex_some]
  cases h : r p.C with
  | none => rfl
  | some b => cases b <;> simp
theorem endsP_nx (y : Y) (Q : PV → Prop) (ρ : PSt) : (endsP y Q).nx ρ = Q .non := rfl
theorem endsP_rt (y : Y) (Q : PV → Prop) : (endsP y Q).rt = Q := rfl
theorem endsP_ex (y : Y) (Q : PV → Prop) (ρ : PSt) : (endsP y Q).ex ρ = y := rfl
theorem endsI_nx (y : Y) (a C : Addr) (Q : List (Str × PV) → Prop) (ρ : PSt) : (endsI y a C Q).nx ρ = (match ρ[0]? with
  | some (some (Sl.ins a' C' fs)) => a' = a ∧ C' = C ∧ Q fs
  | _ => False) := by
  show (∃ fs, ρ[0]? = some (some (Sl.ins a C fs)) ∧ Q fs) = _
  cases ρ[0]? with
  | none => exact propext ⟨fun ⟨_, h, _⟩ => (nomatch h), False.elim⟩
  | some o =>
    cases o with
    | none => exact propext ⟨fun ⟨_, h, _⟩ => (nomatch h), False.elim⟩
    | some s =>
      cases s <;> try exact propext ⟨fun ⟨_, h, _⟩ => (nomatch h), False.elim⟩
      rename_i a' C' fs
      refine propext ⟨?_, ?_⟩
      · rintro ⟨fs', h, q⟩
        cases h
        exact ⟨rfl, rfl, q⟩
      · rintro ⟨rfl, rfl, q⟩
        exact ⟨_, rfl, q⟩
theorem endsI_rt (y : Y) (a C : Addr) (Q : List (Str × PV) → Prop) (v : PV) : (endsI y a C Q).rt v = False := rfl
theorem endsI_ex (y : Y) (a C : Addr) (Q : List (Str × PV) → Prop) (ρ : PSt) : (endsI y a C Q).ex ρ = y := rfl
end QL

namespace L_k00
open PySem PySem.Spec PyProof.Rows L2 QL
/-! ### the text by places (printed by gen.py) -/
def top (i : Nat) : Stmt := PySem.Challenge.pw_lastrows_k00_ratio_lowest.main.body.getD i (.Pass ⟨0, 0, 0, 0⟩)
abbrev s_shared_part : Stmt := top 13
abbrev s_Ratio_init : Stmt := inClass (top 11) 0
abbrev s_Ratio_sign : Stmt := inClass (top 11) 1
abbrev s_Ratio_is_zero : Stmt := inClass (top 11) 2
abbrev s_Ratio_add : Stmt := inClass (top 11) 3
abbrev s_Ratio_sub : Stmt := inClass (top 11) 4
abbrev s_Ratio_mul : Stmt := inClass (top 11) 5
abbrev s_Ratio_neg : Stmt := inClass (top 11) 6
abbrev s_Ratio_abs : Stmt := inClass (top 11) 7
abbrev s_Ratio_eq : Stmt := inClass (top 11) 8
abbrev s_Ratio_over : Stmt := inClass (top 11) 10
abbrev s_Ratio_below : Stmt := inClass (top 11) 11
abbrev s_law_cell : Stmt := top 15
abbrev s_law_mix : Stmt := top 16
abbrev s_law_draws : Stmt := top 17
abbrev s_law_small : Stmt := top 18
abbrev s_law_is_integer : Stmt := top 19
abbrev s_law_gcd : Stmt := top 20
abbrev s_law_ratio : Stmt := top 21
abbrev s_law_numbers : Stmt := top 22
abbrev s_law_is : Stmt := top 23
abbrev s_law_truth : Stmt := top 24
abbrev s_law_dues : Stmt := top 25
abbrev s_law_results : Stmt := top 26
abbrev s_law_quotient : Stmt := top 27
abbrev s_law_order : Stmt := top 28
abbrev s_law_zero_bottom : Stmt := top 29
abbrev s_law : Stmt := top 30
abbrev s_xZeroBottom : Stmt := inClass (top 3) 0
/-- where the classes, the defs, the properties stand -/
structure Ad where
  C_Ratio : Addr
  C_ZeroBottom : Addr
  C_LastrowsError : Addr
  C_Empty : Addr
  C_BadText : Addr
  f_shared_part : Addr
  f_Ratio_init : Addr
  f_Ratio_sign : Addr
  f_Ratio_is_zero : Addr
  f_Ratio_add : Addr
  f_Ratio_sub : Addr
  f_Ratio_mul : Addr
  f_Ratio_neg : Addr
  f_Ratio_abs : Addr
  f_Ratio_eq : Addr
  f_Ratio_over : Addr
  f_Ratio_below : Addr
  f_law_cell : Addr
  f_law_mix : Addr
  f_law_draws : Addr
  f_law_small : Addr
  f_law_is_integer : Addr
  f_law_gcd : Addr
  f_law_ratio : Addr
  f_law_numbers : Addr
  f_law_is : Addr
  f_law_truth : Addr
  f_law_dues : Addr
  f_law_results : Addr
  f_law_quotient : Addr
  f_law_order : Addr
  f_law_zero_bottom : Addr
  f_law : Addr
  f_xZeroBottom : Addr
structure Fd where
  d_shared_part : FuncData
  d_Ratio_init : FuncData
  d_Ratio_sign : FuncData
  d_Ratio_is_zero : FuncData
  d_Ratio_add : FuncData
  d_Ratio_sub : FuncData
  d_Ratio_mul : FuncData
  d_Ratio_neg : FuncData
  d_Ratio_abs : FuncData
  d_Ratio_eq : FuncData
  d_Ratio_over : FuncData
  d_Ratio_below : FuncData
  d_law_cell : FuncData
  d_law_mix : FuncData
  d_law_draws : FuncData
  d_law_small : FuncData
  d_law_is_integer : FuncData
  d_law_gcd : FuncData
  d_law_ratio : FuncData
  d_law_numbers : FuncData
  d_law_is : FuncData
  d_law_truth : FuncData
  d_law_dues : FuncData
  d_law_results : FuncData
  d_law_quotient : FuncData
  d_law_order : FuncData
  d_law_zero_bottom : FuncData
  d_law : FuncData
  d_xZeroBottom : FuncData
/-- what the written part says of them -/
structure Txt (K : PySem.W.Frag) (mg : Str → Option Value) (a : Ad) : Prop where
  mg_Ratio : mg "Ratio" = some (.ref a.C_Ratio)
  cl_Ratio : Cls K a.C_Ratio
  is_Ratio : IsC K a.C_Ratio
  kc_Ratio : KitC K a.C_Ratio
  nf_Ratio : NotF K a.C_Ratio
  sf_Ratio : PySem.W.selfFirst K a.C_Ratio = true
  ne_Ratio : PySem.W.findIn K (.ref a.C_Ratio) "__ne__" = some (some (.builtin "object.__ne__"))
  mk_Ratio : Mk K a.C_Ratio a.f_Ratio_init
  na_Ratio_top : NoAttr K a.C_Ratio "top"
  na_Ratio_bottom : NoAttr K a.C_Ratio "bottom"
  mg_shared_part : mg "shared_part" = some (.ref a.f_shared_part)
  pr_Ratio_sign : ∃ p, PropOf K a.C_Ratio "sign" p a.f_Ratio_sign
  pr_Ratio_is_zero : ∃ p, PropOf K a.C_Ratio "is_zero" p a.f_Ratio_is_zero
  me_Ratio_add : Meth K a.C_Ratio "__add__" a.f_Ratio_add
  fi_Ratio_add : PySem.W.findIn K (.ref a.C_Ratio) "__add__" = some (some (.ref a.f_Ratio_add))
  isf_Ratio_add : PySem.W.isFn K (.ref a.f_Ratio_add) = true
  me_Ratio_sub : Meth K a.C_Ratio "__sub__" a.f_Ratio_sub
  fi_Ratio_sub : PySem.W.findIn K (.ref a.C_Ratio) "__sub__" = some (some (.ref a.f_Ratio_sub))
  isf_Ratio_sub : PySem.W.isFn K (.ref a.f_Ratio_sub) = true
  me_Ratio_mul : Meth K a.C_Ratio "__mul__" a.f_Ratio_mul
  fi_Ratio_mul : PySem.W.findIn K (.ref a.C_Ratio) "__mul__" = some (some (.ref a.f_Ratio_mul))
  isf_Ratio_mul : PySem.W.isFn K (.ref a.f_Ratio_mul) = true
  me_Ratio_neg : Meth K a.C_Ratio "__neg__" a.f_Ratio_neg
  fi_Ratio_neg : PySem.W.findIn K (.ref a.C_Ratio) "__neg__" = some (some (.ref a.f_Ratio_neg))
  isf_Ratio_neg : PySem.W.isFn K (.ref a.f_Ratio_neg) = true
  me_Ratio_abs : Meth K a.C_Ratio "__abs__" a.f_Ratio_abs
  fi_Ratio_abs : PySem.W.findIn K (.ref a.C_Ratio) "__abs__" = some (some (.ref a.f_Ratio_abs))
  isf_Ratio_abs : PySem.W.isFn K (.ref a.f_Ratio_abs) = true
  me_Ratio_eq : Meth K a.C_Ratio "__eq__" a.f_Ratio_eq
  fi_Ratio_eq : PySem.W.findIn K (.ref a.C_Ratio) "__eq__" = some (some (.ref a.f_Ratio_eq))
  isf_Ratio_eq : PySem.W.isFn K (.ref a.f_Ratio_eq) = true
  me_Ratio_over : Meth K a.C_Ratio "over" a.f_Ratio_over
  fi_Ratio_over : PySem.W.findIn K (.ref a.C_Ratio) "over" = some (some (.ref a.f_Ratio_over))
  isf_Ratio_over : PySem.W.isFn K (.ref a.f_Ratio_over) = true
  me_Ratio_below : Meth K a.C_Ratio "below" a.f_Ratio_below
  fi_Ratio_below : PySem.W.findIn K (.ref a.C_Ratio) "below" = some (some (.ref a.f_Ratio_below))
  isf_Ratio_below : PySem.W.isFn K (.ref a.f_Ratio_below) = true
  mg_law_cell : mg "_law_cell" = some (.ref a.f_law_cell)
  mg_law_mix : mg "_law_mix" = some (.ref a.f_law_mix)
  mg_law_draws : mg "_law_draws" = some (.ref a.f_law_draws)
  mg_law_small : mg "_law_small" = some (.ref a.f_law_small)
  mg_law_is_integer : mg "_law_is_integer" = some (.ref a.f_law_is_integer)
  mg_law_gcd : mg "_law_gcd" = some (.ref a.f_law_gcd)
  mg_law_ratio : mg "_law_ratio" = some (.ref a.f_law_ratio)
  mg_law_numbers : mg "_law_numbers" = some (.ref a.f_law_numbers)
  mg_law_is : mg "_law_is" = some (.ref a.f_law_is)
  mg_law_truth : mg "_law_truth" = some (.ref a.f_law_truth)
  mg_law_dues : mg "_law_dues" = some (.ref a.f_law_dues)
  mg_law_results : mg "_law_results" = some (.ref a.f_law_results)
  mg_law_quotient : mg "_law_quotient" = some (.ref a.f_law_quotient)
  mg_law_order : mg "_law_order" = some (.ref a.f_law_order)
  mg_law_zero_bottom : mg "_law_zero_bottom" = some (.ref a.f_law_zero_bottom)
  mg_law : mg "law" = some (.ref a.f_law)
  mg_ZeroBottom : mg "ZeroBottom" = some (.ref a.C_ZeroBottom)
  ox_ZeroBottom : OexC K a.C_ZeroBottom
  xi_ZeroBottom : PySem.W.findIn K (.ref a.C_ZeroBottom) "__init__" = some (some (.ref a.f_xZeroBottom))
  xt_ZeroBottom : PySem.W.typeIn K (.ref a.f_xZeroBottom) = some (.type "function")
  xf_ZeroBottom : XfC K a.C_ZeroBottom
  xc_ZeroBottom : ExcC K a.C_ZeroBottom
  xe_ZeroBottom : PySem.W.exmOne K (.ref a.C_ZeroBottom) (.ref a.C_ZeroBottom) = some true
  na_ZeroBottom_word : PySem.W.findIn K (.ref a.C_ZeroBottom) "word" = some none
  xk_ZeroBottom_LastrowsError : PySem.W.kitOne K (.ref a.C_ZeroBottom) (.ref a.C_LastrowsError) = some true
  xk_ZeroBottom_ValueError : PySem.W.kitOne K (.ref a.C_ZeroBottom) (.type "ValueError") = some true
  xk_ZeroBottom_Empty : PySem.W.kitOne K (.ref a.C_ZeroBottom) (.ref a.C_Empty) = some false
  xk_ZeroBottom_BadText : PySem.W.kitOne K (.ref a.C_ZeroBottom) (.ref a.C_BadText) = some false
  mg_LastrowsError : mg "LastrowsError" = some (.ref a.C_LastrowsError)
  mg_Empty : mg "Empty" = some (.ref a.C_Empty)
  mg_BadText : mg "BadText" = some (.ref a.C_BadText)
  b_ValueError : mg "ValueError" = none
  b_abs : mg "abs" = none
  b_bool : mg "bool" = none
  b_int : mg "int" = none
  b_isinstance : mg "isinstance" = none
  b_len : mg "len" = none
  b_range : mg "range" = none
  m_gcd : mg "gcd" = some (.builtin "math.gcd")
/-- the defs as they stand, and how their arguments bind -/
structure Fs (K : PySem.W.Frag) (a : Ad) (d : Fd) : Prop where
  F_shared_part : FunA K "shared_part" "shared_part" s_shared_part [] a.f_shared_part d.d_shared_part
  B_shared_part : Binds K d.d_shared_part ["tops", "bottom"] []
  F_Ratio_init : FunA K "__init__" "Ratio.__init__" s_Ratio_init [V.int 1] a.f_Ratio_init d.d_Ratio_init
  B_Ratio_init : Binds K d.d_Ratio_init ["self", "top", "bottom"] []
  B_Ratio_init_1 : ∃ ds, Vals ([V.int 1].drop 0) ds ∧ Binds K d.d_Ratio_init ["self", "top", "bottom"] ds
  F_Ratio_sign : FunA K "sign" "Ratio.sign" s_Ratio_sign [] a.f_Ratio_sign d.d_Ratio_sign
  B_Ratio_sign : Binds K d.d_Ratio_sign ["self"] []
  F_Ratio_is_zero : FunA K "is_zero" "Ratio.is_zero" s_Ratio_is_zero [] a.f_Ratio_is_zero d.d_Ratio_is_zero
  B_Ratio_is_zero : Binds K d.d_Ratio_is_zero ["self"] []
  F_Ratio_add : FunA K "__add__" "Ratio.__add__" s_Ratio_add [] a.f_Ratio_add d.d_Ratio_add
  B_Ratio_add : Binds K d.d_Ratio_add ["self", "other"] []
  F_Ratio_sub : FunA K "__sub__" "Ratio.__sub__" s_Ratio_sub [] a.f_Ratio_sub d.d_Ratio_sub
  B_Ratio_sub : Binds K d.d_Ratio_sub ["self", "other"] []
  F_Ratio_mul : FunA K "__mul__" "Ratio.__mul__" s_Ratio_mul [] a.f_Ratio_mul d.d_Ratio_mul
  B_Ratio_mul : Binds K d.d_Ratio_mul ["self", "other"] []
  F_Ratio_neg : FunA K "__neg__" "Ratio.__neg__" s_Ratio_neg [] a.f_Ratio_neg d.d_Ratio_neg
  B_Ratio_neg : Binds K d.d_Ratio_neg ["self"] []
  F_Ratio_abs : FunA K "__abs__" "Ratio.__abs__" s_Ratio_abs [] a.f_Ratio_abs d.d_Ratio_abs
  B_Ratio_abs : Binds K d.d_Ratio_abs ["self"] []
  F_Ratio_eq : FunA K "__eq__" "Ratio.__eq__" s_Ratio_eq [] a.f_Ratio_eq d.d_Ratio_eq
  B_Ratio_eq : Binds K d.d_Ratio_eq ["self", "other"] []
  F_Ratio_over : FunA K "over" "Ratio.over" s_Ratio_over [] a.f_Ratio_over d.d_Ratio_over
  B_Ratio_over : Binds K d.d_Ratio_over ["self", "other"] []
  F_Ratio_below : FunA K "below" "Ratio.below" s_Ratio_below [] a.f_Ratio_below d.d_Ratio_below
  B_Ratio_below : Binds K d.d_Ratio_below ["self", "other"] []
  F_law_cell : FunA K "_law_cell" "_law_cell" s_law_cell [] a.f_law_cell d.d_law_cell
  B_law_cell : Binds K d.d_law_cell ["script", "k"] []
  F_law_mix : FunA K "_law_mix" "_law_mix" s_law_mix [] a.f_law_mix d.d_law_mix
  B_law_mix : Binds K d.d_law_mix ["cell", "k", "at"] []
  F_law_draws : FunA K "_law_draws" "_law_draws" s_law_draws [] a.f_law_draws d.d_law_draws
  B_law_draws : Binds K d.d_law_draws ["script", "k", "many"] []
  F_law_small : FunA K "_law_small" "_law_small" s_law_small [] a.f_law_small d.d_law_small
  B_law_small : Binds K d.d_law_small ["d"] []
  F_law_is_integer : FunA K "_law_is_integer" "_law_is_integer" s_law_is_integer [] a.f_law_is_integer d.d_law_is_integer
  B_law_is_integer : Binds K d.d_law_is_integer ["x"] []
  F_law_gcd : FunA K "_law_gcd" "_law_gcd" s_law_gcd [] a.f_law_gcd d.d_law_gcd
  B_law_gcd : Binds K d.d_law_gcd ["a", "b"] []
  F_law_ratio : FunA K "_law_ratio" "_law_ratio" s_law_ratio [] a.f_law_ratio d.d_law_ratio
  B_law_ratio : Binds K d.d_law_ratio ["top", "bottom"] []
  F_law_numbers : FunA K "_law_numbers" "_law_numbers" s_law_numbers [] a.f_law_numbers d.d_law_numbers
  B_law_numbers : Binds K d.d_law_numbers ["script"] []
  F_law_is : FunA K "_law_is" "_law_is" s_law_is [] a.f_law_is d.d_law_is
  B_law_is : Binds K d.d_law_is ["x", "pair"] []
  F_law_truth : FunA K "_law_truth" "_law_truth" s_law_truth [] a.f_law_truth d.d_law_truth
  B_law_truth : Binds K d.d_law_truth ["x", "due"] []
  F_law_dues : FunA K "_law_dues" "_law_dues" s_law_dues [] a.f_law_dues d.d_law_dues
  B_law_dues : Binds K d.d_law_dues ["p", "q"] []
  F_law_results : FunA K "_law_results" "_law_results" s_law_results [] a.f_law_results d.d_law_results
  B_law_results : Binds K d.d_law_results ["a", "b", "p", "dues"] []
  F_law_quotient : FunA K "_law_quotient" "_law_quotient" s_law_quotient [] a.f_law_quotient d.d_law_quotient
  B_law_quotient : Binds K d.d_law_quotient ["a", "b", "p", "q"] []
  F_law_order : FunA K "_law_order" "_law_order" s_law_order [] a.f_law_order d.d_law_order
  B_law_order : Binds K d.d_law_order ["a", "b", "p", "q"] []
  F_law_zero_bottom : FunA K "_law_zero_bottom" "_law_zero_bottom" s_law_zero_bottom [] a.f_law_zero_bottom d.d_law_zero_bottom
  B_law_zero_bottom : Binds K d.d_law_zero_bottom ["top"] []
  F_law : FunA K "law" "law" s_law [] a.f_law d.d_law
  B_law : Binds K d.d_law ["script"] []
  XF_ZeroBottom : FunA K "__init__" "ZeroBottom.__init__" s_xZeroBottom [] a.f_xZeroBottom d.d_xZeroBottom
  XB_ZeroBottom : Binds K d.d_xZeroBottom ["self"] []
theorem sc_shared_part : FnScope ["tops", "bottom", "part", "top"] ["tops", "bottom"] (defScope s_shared_part) := ⟨rfl, rfl, rfl, by decide +kernel, rfl, by decide +kernel, by decide +kernel⟩
theorem sc_Ratio_init : FnScope ["self", "top", "bottom", "part"] ["self", "top", "bottom"] (defScope s_Ratio_init) := ⟨rfl, rfl, rfl, by decide +kernel, rfl, by decide +kernel, by decide +kernel⟩
theorem sc_Ratio_sign : FnScope ["self"] ["self"] (defScope s_Ratio_sign) := ⟨rfl, rfl, rfl, by decide +kernel, rfl, by decide +kernel, by decide +kernel⟩
theorem sc_Ratio_is_zero : FnScope ["self"] ["self"] (defScope s_Ratio_is_zero) := ⟨rfl, rfl, rfl, by decide +kernel, rfl, by decide +kernel, by decide +kernel⟩
theorem sc_Ratio_add : FnScope ["self", "other"] ["self", "other"] (defScope s_Ratio_add) := ⟨rfl, rfl, rfl, by decide +kernel, rfl, by decide +kernel, by decide +kernel⟩
theorem sc_Ratio_sub : FnScope ["self", "other"] ["self", "other"] (defScope s_Ratio_sub) := ⟨rfl, rfl, rfl, by decide +kernel, rfl, by decide +kernel, by decide +kernel⟩
theorem sc_Ratio_mul : FnScope ["self", "other"] ["self", "other"] (defScope s_Ratio_mul) := ⟨rfl, rfl, rfl, by decide +kernel, rfl, by decide +kernel, by decide +kernel⟩
theorem sc_Ratio_neg : FnScope ["self"] ["self"] (defScope s_Ratio_neg) := ⟨rfl, rfl, rfl, by decide +kernel, rfl, by decide +kernel, by decide +kernel⟩
theorem sc_Ratio_abs : FnScope ["self"] ["self"] (defScope s_Ratio_abs) := ⟨rfl, rfl, rfl, by decide +kernel, rfl, by decide +kernel, by decide +kernel⟩
theorem sc_Ratio_eq : FnScope ["self", "other"] ["self", "other"] (defScope s_Ratio_eq) := ⟨rfl, rfl, rfl, by decide +kernel, rfl, by decide +kernel, by decide +kernel⟩
theorem sc_Ratio_over : FnScope ["self", "other"] ["self", "other"] (defScope s_Ratio_over) := ⟨rfl, rfl, rfl, by decide +kernel, rfl, by decide +kernel, by decide +kernel⟩
theorem sc_Ratio_below : FnScope ["self", "other"] ["self", "other"] (defScope s_Ratio_below) := ⟨rfl, rfl, rfl, by decide +kernel, rfl, by decide +kernel, by decide +kernel⟩
theorem sc_law_cell : FnScope ["script", "k", "total", "cell"] ["script", "k"] (defScope s_law_cell) := ⟨rfl, rfl, rfl, by decide +kernel, rfl, by decide +kernel, by decide +kernel⟩
theorem sc_law_mix : FnScope ["cell", "k", "at", "x"] ["cell", "k", "at"] (defScope s_law_mix) := ⟨rfl, rfl, rfl, by decide +kernel, rfl, by decide +kernel, by decide +kernel⟩
theorem sc_law_draws : FnScope ["script", "k", "many", "cell", "digits", "out", "at"] ["script", "k", "many"] (defScope s_law_draws) := ⟨rfl, rfl, rfl, by decide +kernel, rfl, by decide +kernel, by decide +kernel⟩
theorem sc_law_small : FnScope ["d"] ["d"] (defScope s_law_small) := ⟨rfl, rfl, rfl, by decide +kernel, rfl, by decide +kernel, by decide +kernel⟩
theorem sc_law_is_integer : FnScope ["x"] ["x"] (defScope s_law_is_integer) := ⟨rfl, rfl, rfl, by decide +kernel, rfl, by decide +kernel, by decide +kernel⟩
theorem sc_law_gcd : FnScope ["a", "b", "turns"] ["a", "b"] (defScope s_law_gcd) := ⟨rfl, rfl, rfl, by decide +kernel, rfl, by decide +kernel, by decide +kernel⟩
theorem sc_law_ratio : FnScope ["top", "bottom", "part"] ["top", "bottom"] (defScope s_law_ratio) := ⟨rfl, rfl, rfl, by decide +kernel, rfl, by decide +kernel, by decide +kernel⟩
theorem sc_law_numbers : FnScope ["script", "draws", "kind", "limit", "numbers", "k", "number", "factor"] ["script"] (defScope s_law_numbers) := ⟨rfl, rfl, rfl, by decide +kernel, rfl, by decide +kernel, by decide +kernel⟩
theorem sc_law_is : FnScope ["x", "pair"] ["x", "pair"] (defScope s_law_is) := ⟨rfl, rfl, rfl, by decide +kernel, rfl, by decide +kernel, by decide +kernel⟩
theorem sc_law_truth : FnScope ["x", "due"] ["x", "due"] (defScope s_law_truth) := ⟨rfl, rfl, rfl, by decide +kernel, rfl, by decide +kernel, by decide +kernel⟩
theorem sc_law_dues : FnScope ["p", "q", "both", "total", "less"] ["p", "q"] (defScope s_law_dues) := ⟨rfl, rfl, rfl, by decide +kernel, rfl, by decide +kernel, by decide +kernel⟩
theorem sc_law_results : FnScope ["a", "b", "p", "dues"] ["a", "b", "p", "dues"] (defScope s_law_results) := ⟨rfl, rfl, rfl, by decide +kernel, rfl, by decide +kernel, by decide +kernel⟩
theorem sc_law_quotient : FnScope ["a", "b", "p", "q", "refused", "told", "e"] ["a", "b", "p", "q"] (defScope s_law_quotient) := ⟨rfl, rfl, rfl, by decide +kernel, rfl, by decide +kernel, by decide +kernel⟩
theorem sc_law_order : FnScope ["a", "b", "p", "q", "other"] ["a", "b", "p", "q"] (defScope s_law_order) := ⟨rfl, rfl, rfl, by decide +kernel, rfl, by decide +kernel, by decide +kernel⟩
theorem sc_law_zero_bottom : FnScope ["top", "refused", "e"] ["top"] (defScope s_law_zero_bottom) := ⟨rfl, rfl, rfl, by decide +kernel, rfl, by decide +kernel, by decide +kernel⟩
theorem sc_law : FnScope ["script", "numbers", "p", "q", "a", "b", "top", "dues", "lap"] ["script"] (defScope s_law) := ⟨rfl, rfl, rfl, by decide +kernel, rfl, by decide +kernel, by decide +kernel⟩
theorem sc_xZeroBottom : FnScope ["self"] ["self"] (defScope s_xZeroBottom) := ⟨rfl, rfl, rfl, by decide +kernel, rfl, by decide +kernel, by decide +kernel⟩
end L_k00

-- simps: R2s, R1s, P_law_quotient
namespace L_k00
open PySem PySem.Spec PyProof.Rows L2 QL
/-! ### the mathematics: what the defs compute -/
def dueL (p0 p1 q0 q1 : Int) : List PV := [.tup [.int (nT (p0 * q1 + q0 * p1) (p1 * q1)), .int (nB (p0 * q1 + q0 * p1) (p1 * q1))],
  .tup [.int (nT (p0 * q1 - q0 * p1) (p1 * q1)), .int (nB (p0 * q1 - q0 * p1) (p1 * q1))],
  .tup [.int (-(nT (p0 * q1 - q0 * p1) (p1 * q1))), .int (nB (p0 * q1 - q0 * p1) (p1 * q1))],
  .tup [.int (nT (p0 * q0) (p1 * q1)), .int (nB (p0 * q0) (p1 * q1))]]
/-! ### the promises -/
def P_shared_part (a : Ad) : PSpec := fun xs y Q => ∃ (ts : List Int) (b : Int), xs = [.lst (ts.map PV.int), .int b] ∧ Q (.int (shared ts b))
def zb (a : Ad) : PX := ⟨a.C_ZeroBottom, [("word", .str "bottom")]⟩
def I_Ratio_init (a : Ad) : ISpec := fun xs y Q => ∃ t b : Int, xs = [.int t, .int b] ∧ (b = 0 → y (zb a)) ∧ (b ≠ 0 → Sz 8000 b ∧ Q [("top", .int (nT t b)), ("bottom", .int (nB t b))])
abbrev R2s (a : Ad) (f : Int → Int → Int → Int → (PV → Prop) → Prop) : PSpec := fun xs y Q => ∃ t b u c : Int, xs = [rat a.C_Ratio t b, rat a.C_Ratio u c] ∧ (Sz 4000 t ∧ Sz 4000 b ∧ Sz 4000 u ∧ Sz 4000 c) ∧ (b ≠ 0 ∧ c ≠ 0) ∧ f t b u c Q
def P_Ratio_add (a : Ad) : PSpec := R2s a fun t b u c Q => Q (rat a.C_Ratio (nT (t * c + u * b) (b * c)) (nB (t * c + u * b) (b * c)))
def P_Ratio_sub (a : Ad) : PSpec := R2s a fun t b u c Q => Q (rat a.C_Ratio (nT (t * c - u * b) (b * c)) (nB (t * c - u * b) (b * c)))
def P_Ratio_mul (a : Ad) : PSpec := R2s a fun t b u c Q => Q (rat a.C_Ratio (nT (t * u) (b * c)) (nB (t * u) (b * c)))
def P_Ratio_below (a : Ad) : PSpec := R2s a fun t b u c Q => Q (.bl (decide (t * c < u * b)))
def P_Ratio_over (a : Ad) : PSpec := fun xs y Q => ∃ t b u c : Int, xs = [rat a.C_Ratio t b, rat a.C_Ratio u c] ∧ (Sz 4000 t ∧ Sz 4000 b ∧ Sz 4000 u ∧ Sz 4000 c) ∧ b ≠ 0 ∧ (u = 0 → y (zb a)) ∧ (u ≠ 0 → Q (rat a.C_Ratio (nT (t * c) (b * u)) (nB (t * c) (b * u))))
abbrev R1s (a : Ad) (f : Int → Int → (PV → Prop) → Prop) : PSpec := fun xs y Q => ∃ t b : Int, xs = [rat a.C_Ratio t b] ∧ Sz 4000 t ∧ Sz 4000 b ∧ b ≠ 0 ∧ f t b Q
def P_Ratio_sign (a : Ad) : PSpec := R1s a fun t b Q => Q (.int (if t < 0 then -1 else if t = 0 then 0 else 1))
def P_Ratio_is_zero (a : Ad) : PSpec := R1s a fun t b Q => Q (.bl (t == 0))
def P_Ratio_neg (a : Ad) : PSpec := R1s a fun t b Q => Q (rat a.C_Ratio (nT (-t) b) (nB (-t) b))
def P_Ratio_abs (a : Ad) : PSpec := R1s a fun t b Q => Q (rat a.C_Ratio (nT (if t < 0 then -t else t) b) (nB (if t < 0 then -t else t) b))
def P_Ratio_eq (a : Ad) : PSpec := fun xs y Q => ∃ (t b : Int) (z : PV), xs = [rat a.C_Ratio t b, z] ∧ ((∃ u c : Int, z = rat a.C_Ratio u c ∧ Q (.bl (t == u && b == c))) ∨ (isiC a.C_Ratio [] z = some false ∧ Q (.bl false)))
def lstI (ns : List Int) : PV := .lst (ns.map PV.int)
def P_law_cell (a : Ad) : PSpec := fun xs y Q => ∃ (ns : List Int) (k : Int), xs = [lstI ns, .int k] ∧ 0 ≤ k ∧ ns.length ≤ 63 ∧ ∀ c, Q (.int c)
def P_law_mix (a : Ad) : PSpec := fun xs y Q => ∃ c k t : Int, xs = [.int c, .int k, .int t] ∧ ∀ r : Int, 0 ≤ r → r < 1024 → Q (.int r)
def P_law_draws (a : Ad) : PSpec := fun xs y Q => ∃ (ns : List Int) (k m : Int), xs = [lstI ns, .int k, .int m] ∧ 0 ≤ k ∧ ns.length ≤ 63 ∧ 0 ≤ m ∧ m ≤ 1000 ∧ ∀ rs : List Int, (rs.length : Int) = m → (∀ r ∈ rs, 0 ≤ r ∧ r < 1024) → Q (lstI rs)
def P_law_small (a : Ad) : PSpec := fun xs y Q => ∃ d : Int, xs = [.int d] ∧ ∀ r : Int, -32 ≤ r → r ≤ 31 → Q (.int r)
def P_law_is_integer (a : Ad) : PSpec := fun xs y Q => ∃ i : Int, xs = [.int i] ∧ Q (.bl true)
def P_law_gcd (a : Ad) : PSpec := fun xs y Q => ∃ t b : Int, xs = [.int t, .int b] ∧ Sz 8000 b ∧ Q (.int (gcdZ t b))
def P_law_ratio (a : Ad) : PSpec := fun xs y Q => ∃ t b : Int, xs = [.int t, .int b] ∧ b ≠ 0 ∧ Sz 8000 b ∧ Q (.tup [.int (nT t b), .int (nB t b)])
def P_law_numbers (a : Ad) : PSpec := fun xs y Q => ∃ ns : List Int, xs = [lstI ns] ∧ ns.length ≤ 63 ∧ ∀ n0 n1 n2 n3 : Int, n1 ≠ 0 → n3 ≠ 0 → Sz 3400 n0 → Sz 3400 n1 → Sz 3400 n2 → Sz 3400 n3 → Q (lstI [n0, n1, n2, n3])
def P_law_is (a : Ad) : PSpec := fun xs y Q => ∃ t b p0 p1 : Int, xs = [rat a.C_Ratio t b, .tup [.int p0, .int p1]] ∧ Q (.bl (t == p0 && b == p1))
def P_law_truth (a : Ad) : PSpec := fun xs y Q => ∃ b c : Bool, xs = [.bl b, .bl c] ∧ Q (.bl (b == c))
def P_law_dues (a : Ad) : PSpec := fun xs y Q => ∃ p0 p1 q0 q1 : Int, xs = [.tup [.int p0, .int p1], .tup [.int q0, .int q1]] ∧ (Sz 3500 p0 ∧ Sz 3500 p1 ∧ Sz 3500 q0 ∧ Sz 3500 q1) ∧ p1 ≠ 0 ∧ q1 ≠ 0 ∧ Q (.lst (dueL p0 p1 q0 q1))
def Two (p0 p1 q0 q1 : Int) : Prop := (Sz 3500 p0 ∧ Sz 3500 p1 ∧ Sz 3500 q0 ∧ Sz 3500 q1) ∧ Low p0 p1 ∧ Low q0 q1
def P_law_results (a : Ad) : PSpec := fun xs y Q => ∃ p0 p1 q0 q1 : Int, xs = [rat a.C_Ratio p0 p1, rat a.C_Ratio q0 q1, .tup [.int p0, .int p1], .lst (dueL p0 p1 q0 q1)] ∧ Two p0 p1 q0 q1 ∧ Q (.bl true)
def P_law_quotient (a : Ad) : PSpec := fun xs y Q => ∃ p0 p1 q0 q1 : Int, xs = [rat a.C_Ratio p0 p1, rat a.C_Ratio q0 q1, .tup [.int p0, .int p1], .tup [.int q0, .int q1]] ∧ Two p0 p1 q0 q1 ∧ Q (.bl true)
def P_law_order (a : Ad) : PSpec := P_law_quotient a
def P_law_zero_bottom (a : Ad) : PSpec := fun xs y Q => ∃ t : Int, xs = [.int t] ∧ Q (.bl true)
def P_law0 : PSpec := fun xs y Q => ∃ ns : List Int, xs = [lstI ns] ∧ ns.length ≤ 63 ∧ Q (.bl true)
theorem law0 (ns : List Int) (h : ns.length ≤ 63) : ∀ y, P_law0 [.lst (ns.map PV.int)] y (fun x => x = .bl true) := fun _ => ⟨ns, rfl, h, rfl⟩
def P_law (a : Ad) : PSpec := P_law0
/-! ### the promises at values -/
section
variable (a : Ad) (y : Y)
theorem i_init (t b : Int) (Q : List (Str × PV) → Prop) : I_Ratio_init a [.int t, .int b] y Q = ((b = 0 → y (zb a)) ∧ (b ≠ 0 → Sz 8000 b ∧ Q [("top", .int (nT t b)), ("bottom", .int (nB t b))])) := by
  exact propext ⟨by rintro ⟨_, _, e, h⟩; cases e; exact h, fun h => ⟨_, _, rfl, h⟩⟩
theorem i_add (t b u c : Int) (Q : PV → Prop) : P_Ratio_add a [rat a.C_Ratio t b, rat a.C_Ratio u c] y Q = ((Sz 4000 t ∧ Sz 4000 b ∧ Sz 4000 u ∧ Sz 4000 c) ∧ (b ≠ 0 ∧ c ≠ 0) ∧ Q (rat a.C_Ratio (nT (t * c + u * b) (b * c)) (nB (t * c + u * b) (b * c)))) := by
  exact propext ⟨by rintro ⟨_, _, _, _, e, h⟩; cases e; exact h, fun h => ⟨_, _, _, _, rfl, h⟩⟩
theorem i_sub (t b u c : Int) (Q : PV → Prop) : P_Ratio_sub a [rat a.C_Ratio t b, rat a.C_Ratio u c] y Q = ((Sz 4000 t ∧ Sz 4000 b ∧ Sz 4000 u ∧ Sz 4000 c) ∧ (b ≠ 0 ∧ c ≠ 0) ∧ Q (rat a.C_Ratio (nT (t * c - u * b) (b * c)) (nB (t * c - u * b) (b * c)))) := by
  exact propext ⟨by rintro ⟨_, _, _, _, e, h⟩; cases e; exact h, fun h => ⟨_, _, _, _, rfl, h⟩⟩
theorem i_mul (t b u c : Int) (Q : PV → Prop) : P_Ratio_mul a [rat a.C_Ratio t b, rat a.C_Ratio u c] y Q = ((Sz 4000 t ∧ Sz 4000 b ∧ Sz 4000 u ∧ Sz 4000 c) ∧ (b ≠ 0 ∧ c ≠ 0) ∧ Q (rat a.C_Ratio (nT (t * u) (b * c)) (nB (t * u) (b * c)))) := by
  exact propext ⟨by rintro ⟨_, _, _, _, e, h⟩; cases e; exact h, fun h => ⟨_, _, _, _, rfl, h⟩⟩
theorem i_below (t b u c : Int) (Q : PV → Prop) : P_Ratio_below a [rat a.C_Ratio t b, rat a.C_Ratio u c] y Q = ((Sz 4000 t ∧ Sz 4000 b ∧ Sz 4000 u ∧ Sz 4000 c) ∧ (b ≠ 0 ∧ c ≠ 0) ∧ Q (.bl (decide (t * c < u * b)))) := by
  exact propext ⟨by rintro ⟨_, _, _, _, e, h⟩; cases e; exact h, fun h => ⟨_, _, _, _, rfl, h⟩⟩
theorem i_over (t b u c : Int) (Q : PV → Prop) : P_Ratio_over a [rat a.C_Ratio t b, rat a.C_Ratio u c] y Q = ((Sz 4000 t ∧ Sz 4000 b ∧ Sz 4000 u ∧ Sz 4000 c) ∧ b ≠ 0 ∧ (u = 0 → y (zb a)) ∧ (u ≠ 0 → Q (rat a.C_Ratio (nT (t * c) (b * u)) (nB (t * c) (b * u))))) := by
  exact propext ⟨by rintro ⟨_, _, _, _, e, h⟩; cases e; exact h, fun h => ⟨_, _, _, _, rfl, h⟩⟩
theorem i_neg (t b : Int) (Q : PV → Prop) : P_Ratio_neg a [rat a.C_Ratio t b] y Q = (Sz 4000 t ∧ Sz 4000 b ∧ b ≠ 0 ∧ Q (rat a.C_Ratio (nT (-t) b) (nB (-t) b))) := by
  exact propext ⟨by rintro ⟨_, _, e, h⟩; cases e; exact h, fun h => ⟨_, _, rfl, h⟩⟩
theorem i_abs (t b : Int) (Q : PV → Prop) : P_Ratio_abs a [rat a.C_Ratio t b] y Q = (Sz 4000 t ∧ Sz 4000 b ∧ b ≠ 0 ∧ Q (rat a.C_Ratio (nT (if t < 0 then -t else t) b) (nB (if t < 0 then -t else t) b))) := by
  exact propext ⟨by rintro ⟨_, _, e, h⟩; cases e; exact h, fun h => ⟨_, _, rfl, h⟩⟩
theorem i_sign (t b : Int) (Q : PV → Prop) : P_Ratio_sign a [rat a.C_Ratio t b] y Q = (Sz 4000 t ∧ Sz 4000 b ∧ b ≠ 0 ∧ Q (.int (if t < 0 then -1 else if t = 0 then 0 else 1))) := by
  exact propext ⟨by rintro ⟨_, _, e, h⟩; cases e; exact h, fun h => ⟨_, _, rfl, h⟩⟩
theorem i_is_zero (t b : Int) (Q : PV → Prop) : P_Ratio_is_zero a [rat a.C_Ratio t b] y Q = (Sz 4000 t ∧ Sz 4000 b ∧ b ≠ 0 ∧ Q (.bl (t == 0))) := by
  exact propext ⟨by rintro ⟨_, _, e, h⟩; cases e; exact h, fun h => ⟨_, _, rfl, h⟩⟩
theorem i_eq (t b u c : Int) (Q : PV → Prop) : P_Ratio_eq a [rat a.C_Ratio t b, rat a.C_Ratio u c] y Q = Q (.bl (t == u && b == c)) := by
  refine propext ⟨?_, fun h => ⟨t, b, _, rfl, .inl ⟨u, c, rfl, h⟩⟩⟩
  rintro ⟨t', b', z, e, h⟩
  cases e
  rcases h with ⟨u', c', e, h⟩ | ⟨e, _⟩
  · cases e
    exact h
  · rw [show isiC a.C_Ratio [] (rat a.C_Ratio u c) = some true from if_pos rfl] at e
    cases e
theorem i_eqF (t b : Int) (z : PV) (Q : PV → Prop) (hz : isiC a.C_Ratio [] z = some false) : P_Ratio_eq a [rat a.C_Ratio t b, z] y Q = Q (.bl false) := by
  refine propext ⟨?_, fun h => ⟨t, b, _, rfl, .inr ⟨hz, h⟩⟩⟩
  rintro ⟨t', b', z', e, h⟩
  cases e
  rcases h with ⟨u', c', rfl, h⟩ | ⟨_, h⟩
  · rw [show isiC a.C_Ratio [] (rat a.C_Ratio u' c') = some true from if_pos rfl] at hz
    cases hz
  · exact h
theorem i_eq_int (t b k : Int) (Q : PV → Prop) : P_Ratio_eq a [rat a.C_Ratio t b, .int k] y Q = Q (.bl false) := i_eqF a y t b _ Q rfl
theorem i_eq_tup (t b : Int) (k : List PV) (Q : PV → Prop) : P_Ratio_eq a [rat a.C_Ratio t b, .tup k] y Q = Q (.bl false) := i_eqF a y t b _ Q rfl
theorem i_eq_str (t b : Int) (k : Str) (Q : PV → Prop) : P_Ratio_eq a [rat a.C_Ratio t b, .str k] y Q = Q (.bl false) := i_eqF a y t b _ Q rfl
theorem i_eq_non (t b : Int) (Q : PV → Prop) : P_Ratio_eq a [rat a.C_Ratio t b, .non] y Q = Q (.bl false) := i_eqF a y t b _ Q rfl
theorem i_isint (t : Int) (Q : PV → Prop) : P_law_is_integer a [.int t] y Q = Q (.bl true) := by
  exact propext ⟨by rintro ⟨_, e, h⟩; cases e; exact h, fun h => ⟨_, rfl, h⟩⟩
theorem i_gcd (t b : Int) (Q : PV → Prop) : P_law_gcd a [.int t, .int b] y Q = (Sz 8000 b ∧ Q (.int (gcdZ t b))) := by
  exact propext ⟨by rintro ⟨_, _, e, h⟩; cases e; exact h, fun h => ⟨_, _, rfl, h⟩⟩
theorem i_ratio (t b : Int) (Q : PV → Prop) : P_law_ratio a [.int t, .int b] y Q = (b ≠ 0 ∧ Sz 8000 b ∧ Q (.tup [.int (nT t b), .int (nB t b)])) := by
  exact propext ⟨by rintro ⟨_, _, e, h⟩; cases e; exact h, fun h => ⟨_, _, rfl, h⟩⟩
theorem i_is (t b p0 p1 : Int) (Q : PV → Prop) : P_law_is a [rat a.C_Ratio t b, .tup [.int p0, .int p1]] y Q = Q (.bl (t == p0 && b == p1)) := by
  exact propext ⟨by rintro ⟨_, _, _, _, e, h⟩; cases e; exact h, fun h => ⟨_, _, _, _, rfl, h⟩⟩
theorem i_truth (b c : Bool) (Q : PV → Prop) : P_law_truth a [.bl b, .bl c] y Q = Q (.bl (b == c)) := by
  exact propext ⟨by rintro ⟨_, _, e, h⟩; cases e; exact h, fun h => ⟨_, _, rfl, h⟩⟩
theorem i_small (d : Int) (Q : PV → Prop) : P_law_small a [.int d] y Q = ∀ r : Int, -32 ≤ r → r ≤ 31 → Q (.int r) := by
  exact propext ⟨by rintro ⟨_, e, h⟩; cases e; exact h, fun h => ⟨_, rfl, h⟩⟩
theorem i_mix (c k t : Int) (Q : PV → Prop) : P_law_mix a [.int c, .int k, .int t] y Q = ∀ r : Int, 0 ≤ r → r < 1024 → Q (.int r) := by
  exact propext ⟨by rintro ⟨_, _, _, e, h⟩; cases e; exact h, fun h => ⟨_, _, _, rfl, h⟩⟩
theorem i_zb (t : Int) (Q : PV → Prop) : P_law_zero_bottom a [.int t] y Q = Q (.bl true) := by
  exact propext ⟨by rintro ⟨_, e, h⟩; cases e; exact h, fun h => ⟨_, rfl, h⟩⟩
theorem i_dues (p0 p1 q0 q1 : Int) (Q : PV → Prop) : P_law_dues a [.tup [.int p0, .int p1], .tup [.int q0, .int q1]] y Q = ((Sz 3500 p0 ∧ Sz 3500 p1 ∧ Sz 3500 q0 ∧ Sz 3500 q1) ∧ p1 ≠ 0 ∧ q1 ≠ 0 ∧ Q (.lst (dueL p0 p1 q0 q1))) := by
  exact propext ⟨by rintro ⟨_, _, _, _, e, h⟩; cases e; exact h, fun h => ⟨_, _, _, _, rfl, h⟩⟩
theorem i_results (p0 p1 q0 q1 : Int) (Q : PV → Prop) : P_law_results a [rat a.C_Ratio p0 p1, rat a.C_Ratio q0 q1, .tup [.int p0, .int p1], .lst (dueL p0 p1 q0 q1)] y Q = (Two p0 p1 q0 q1 ∧ Q (.bl true)) := by
  exact propext ⟨by rintro ⟨_, _, _, _, e, h⟩; cases e; exact h, fun h => ⟨_, _, _, _, rfl, h⟩⟩
theorem i_quotient (p0 p1 q0 q1 : Int) (Q : PV → Prop) : P_law_quotient a [rat a.C_Ratio p0 p1, rat a.C_Ratio q0 q1, .tup [.int p0, .int p1], .tup [.int q0, .int q1]] y Q = (Two p0 p1 q0 q1 ∧ Q (.bl true)) := by
  exact propext ⟨by rintro ⟨_, _, _, _, e, h⟩; cases e; exact h, fun h => ⟨_, _, _, _, rfl, h⟩⟩
theorem i_order (p0 p1 q0 q1 : Int) (Q : PV → Prop) : P_law_order a [rat a.C_Ratio p0 p1, rat a.C_Ratio q0 q1, .tup [.int p0, .int p1], .tup [.int q0, .int q1]] y Q = (Two p0 p1 q0 q1 ∧ Q (.bl true)) := i_quotient a y p0 p1 q0 q1 Q
end

/-! ### how many arguments -/
theorem len_shared_part (a : Ad) : ∀ xs y Q, P_shared_part a xs y Q → xs.length = 2 := by
  intro xs y Q h
  simp only [P_shared_part, P_law0, R2s, R1s, P_law_quotient] at h
  (first | (obtain ⟨_, _, _, _, _, _, _, _, rfl, _⟩ := h; rfl) | (obtain ⟨_, _, _, _, _, _, _, rfl, _⟩ := h; rfl) | (obtain ⟨_, _, _, _, _, _, rfl, _⟩ := h; rfl) | (obtain ⟨_, _, _, _, _, rfl, _⟩ := h; rfl) | (obtain ⟨_, _, _, _, rfl, _⟩ := h; rfl) | (obtain ⟨_, _, _, rfl, _⟩ := h; rfl) | (obtain ⟨_, _, rfl, _⟩ := h; rfl) | (obtain ⟨_, rfl, _⟩ := h; rfl) | (obtain ⟨rfl, _⟩ := h; rfl))
theorem len_Ratio_init (a : Ad) : ∀ xs y Q, I_Ratio_init a xs y Q → xs.length + 1 = 3 := by
  intro xs y Q h
  simp only [I_Ratio_init, P_law0, R2s, R1s, P_law_quotient] at h
  (first | (obtain ⟨_, _, _, _, _, _, _, _, rfl, _⟩ := h; rfl) | (obtain ⟨_, _, _, _, _, _, _, rfl, _⟩ := h; rfl) | (obtain ⟨_, _, _, _, _, _, rfl, _⟩ := h; rfl) | (obtain ⟨_, _, _, _, _, rfl, _⟩ := h; rfl) | (obtain ⟨_, _, _, _, rfl, _⟩ := h; rfl) | (obtain ⟨_, _, _, rfl, _⟩ := h; rfl) | (obtain ⟨_, _, rfl, _⟩ := h; rfl) | (obtain ⟨_, rfl, _⟩ := h; rfl) | (obtain ⟨rfl, _⟩ := h; rfl))
theorem len_Ratio_sign (a : Ad) : ∀ xs y Q, P_Ratio_sign a xs y Q → xs.length = 1 := by
  intro xs y Q h
  simp only [P_Ratio_sign, P_law0, R2s, R1s, P_law_quotient] at h
  (first | (obtain ⟨_, _, _, _, _, _, _, _, rfl, _⟩ := h; rfl) | (obtain ⟨_, _, _, _, _, _, _, rfl, _⟩ := h; rfl) | (obtain ⟨_, _, _, _, _, _, rfl, _⟩ := h; rfl) | (obtain ⟨_, _, _, _, _, rfl, _⟩ := h; rfl) | (obtain ⟨_, _, _, _, rfl, _⟩ := h; rfl) | (obtain ⟨_, _, _, rfl, _⟩ := h; rfl) | (obtain ⟨_, _, rfl, _⟩ := h; rfl) | (obtain ⟨_, rfl, _⟩ := h; rfl) | (obtain ⟨rfl, _⟩ := h; rfl))
theorem len_Ratio_is_zero (a : Ad) : ∀ xs y Q, P_Ratio_is_zero a xs y Q → xs.length = 1 := by
  intro xs y Q h
  simp only [P_Ratio_is_zero, P_law0, R2s, R1s, P_law_quotient] at h
  (first | (obtain ⟨_, _, _, _, _, _, _, _, rfl, _⟩ := h; rfl) | (obtain ⟨_, _, _, _, _, _, _, rfl, _⟩ := h; rfl) | (obtain ⟨_, _, _, _, _, _, rfl, _⟩ := h; rfl) | (obtain ⟨_, _, _, _, _, rfl, _⟩ := h; rfl) | (obtain ⟨_, _, _, _, rfl, _⟩ := h; rfl) | (obtain ⟨_, _, _, rfl, _⟩ := h; rfl) | (obtain ⟨_, _, rfl, _⟩ := h; rfl) | (obtain ⟨_, rfl, _⟩ := h; rfl) | (obtain ⟨rfl, _⟩ := h; rfl))
theorem len_Ratio_add (a : Ad) : ∀ xs y Q, P_Ratio_add a xs y Q → xs.length = 2 := by
  intro xs y Q h
  simp only [P_Ratio_add, P_law0, R2s, R1s, P_law_quotient] at h
  (first | (obtain ⟨_, _, _, _, _, _, _, _, rfl, _⟩ := h; rfl) | (obtain ⟨_, _, _, _, _, _, _, rfl, _⟩ := h; rfl) | (obtain ⟨_, _, _, _, _, _, rfl, _⟩ := h; rfl) | (obtain ⟨_, _, _, _, _, rfl, _⟩ := h; rfl) | (obtain ⟨_, _, _, _, rfl, _⟩ := h; rfl) | (obtain ⟨_, _, _, rfl, _⟩ := h; rfl) | (obtain ⟨_, _, rfl, _⟩ := h; rfl) | (obtain ⟨_, rfl, _⟩ := h; rfl) | (obtain ⟨rfl, _⟩ := h; rfl))
theorem len_Ratio_sub (a : Ad) : ∀ xs y Q, P_Ratio_sub a xs y Q → xs.length = 2 := by
  intro xs y Q h
  simp only [P_Ratio_sub, P_law0, R2s, R1s, P_law_quotient] at h
  (first | (obtain ⟨_, _, _, _, _, _, _, _, rfl, _⟩ := h; rfl) | (obtain ⟨_, _, _, _, _, _, _, rfl, _⟩ := h; rfl) | (obtain ⟨_, _, _, _, _, _, rfl, _⟩ := h; rfl) | (obtain ⟨_, _, _, _, _, rfl, _⟩ := h; rfl) | (obtain ⟨_, _, _, _, rfl, _⟩ := h; rfl) | (obtain ⟨_, _, _, rfl, _⟩ := h; rfl) | (obtain ⟨_, _, rfl, _⟩ := h; rfl) | (obtain ⟨_, rfl, _⟩ := h; rfl) | (obtain ⟨rfl, _⟩ := h; rfl))
theorem len_Ratio_mul (a : Ad) : ∀ xs y Q, P_Ratio_mul a xs y Q → xs.length = 2 := by
  intro xs y Q h
  simp only [P_Ratio_mul, P_law0, R2s, R1s, P_law_quotient] at h
  (first | (obtain ⟨_, _, _, _, _, _, _, _, rfl, _⟩ := h; rfl) | (obtain ⟨_, _, _, _, _, _, _, rfl, _⟩ := h; rfl) | (obtain ⟨_, _, _, _, _, _, rfl, _⟩ := h; rfl) | (obtain ⟨_, _, _, _, _, rfl, _⟩ := h; rfl) | (obtain ⟨_, _, _, _, rfl, _⟩ := h; rfl) | (obtain ⟨_, _, _, rfl, _⟩ := h; rfl) | (obtain ⟨_, _, rfl, _⟩ := h; rfl) | (obtain ⟨_, rfl, _⟩ := h; rfl) | (obtain ⟨rfl, _⟩ := h; rfl))
theorem len_Ratio_neg (a : Ad) : ∀ xs y Q, P_Ratio_neg a xs y Q → xs.length = 1 := by
  intro xs y Q h
  simp only [P_Ratio_neg, P_law0, R2s, R1s, P_law_quotient] at h
  (first | (obtain ⟨_, _, _, _, _, _, _, _, rfl, _⟩ := h; rfl) | (obtain ⟨_, _, _, _, _, _, _, rfl, _⟩ := h; rfl) | (obtain ⟨_, _, _, _, _, _, rfl, _⟩ := h; rfl) | (obtain ⟨_, _, _, _, _, rfl, _⟩ := h; rfl) | (obtain ⟨_, _, _, _, rfl, _⟩ := h; rfl) | (obtain ⟨_, _, _, rfl, _⟩ := h; rfl) | (obtain ⟨_, _, rfl, _⟩ := h; rfl) | (obtain ⟨_, rfl, _⟩ := h; rfl) | (obtain ⟨rfl, _⟩ := h; rfl))
theorem len_Ratio_abs (a : Ad) : ∀ xs y Q, P_Ratio_abs a xs y Q → xs.length = 1 := by
  intro xs y Q h
  simp only [P_Ratio_abs, P_law0, R2s, R1s, P_law_quotient] at h
  (first | (obtain ⟨_, _, _, _, _, _, _, _, rfl, _⟩ := h; rfl) | (obtain ⟨_, _, _, _, _, _, _, rfl, _⟩ := h; rfl) | (obtain ⟨_, _, _, _, _, _, rfl, _⟩ := h; rfl) | (obtain ⟨_, _, _, _, _, rfl, _⟩ := h; rfl) | (obtain ⟨_, _, _, _, rfl, _⟩ := h; rfl) | (obtain ⟨_, _, _, rfl, _⟩ := h; rfl) | (obtain ⟨_, _, rfl, _⟩ := h; rfl) | (obtain ⟨_, rfl, _⟩ := h; rfl) | (obtain ⟨rfl, _⟩ := h; rfl))
theorem len_Ratio_eq (a : Ad) : ∀ xs y Q, P_Ratio_eq a xs y Q → xs.length = 2 := by
  intro xs y Q h
  simp only [P_Ratio_eq, P_law0, R2s, R1s, P_law_quotient] at h
  (first | (obtain ⟨_, _, _, _, _, _, _, _, rfl, _⟩ := h; rfl) | (obtain ⟨_, _, _, _, _, _, _, rfl, _⟩ := h; rfl) | (obtain ⟨_, _, _, _, _, _, rfl, _⟩ := h; rfl) | (obtain ⟨_, _, _, _, _, rfl, _⟩ := h; rfl) | (obtain ⟨_, _, _, _, rfl, _⟩ := h; rfl) | (obtain ⟨_, _, _, rfl, _⟩ := h; rfl) | (obtain ⟨_, _, rfl, _⟩ := h; rfl) | (obtain ⟨_, rfl, _⟩ := h; rfl) | (obtain ⟨rfl, _⟩ := h; rfl))
theorem len_Ratio_over (a : Ad) : ∀ xs y Q, P_Ratio_over a xs y Q → xs.length = 2 := by
  intro xs y Q h
  simp only [P_Ratio_over, P_law0, R2s, R1s, P_law_quotient] at h
  (first | (obtain ⟨_, _, _, _, _, _, _, _, rfl, _⟩ := h; rfl) | (obtain ⟨_, _, _, _, _, _, _, rfl, _⟩ := h; rfl) | (obtain ⟨_, _, _, _, _, _, rfl, _⟩ := h; rfl) | (obtain ⟨_, _, _, _, _, rfl, _⟩ := h; rfl) | (obtain ⟨_, _, _, _, rfl, _⟩ := h; rfl) | (obtain ⟨_, _, _, rfl, _⟩ := h; rfl) | (obtain ⟨_, _, rfl, _⟩ := h; rfl) | (obtain ⟨_, rfl, _⟩ := h; rfl) | (obtain ⟨rfl, _⟩ := h; rfl))
theorem len_Ratio_below (a : Ad) : ∀ xs y Q, P_Ratio_below a xs y Q → xs.length = 2 := by
  intro xs y Q h
  simp only [P_Ratio_below, P_law0, R2s, R1s, P_law_quotient] at h
  (first | (obtain ⟨_, _, _, _, _, _, _, _, rfl, _⟩ := h; rfl) | (obtain ⟨_, _, _, _, _, _, _, rfl, _⟩ := h; rfl) | (obtain ⟨_, _, _, _, _, _, rfl, _⟩ := h; rfl) | (obtain ⟨_, _, _, _, _, rfl, _⟩ := h; rfl) | (obtain ⟨_, _, _, _, rfl, _⟩ := h; rfl) | (obtain ⟨_, _, _, rfl, _⟩ := h; rfl) | (obtain ⟨_, _, rfl, _⟩ := h; rfl) | (obtain ⟨_, rfl, _⟩ := h; rfl) | (obtain ⟨rfl, _⟩ := h; rfl))
theorem len_law_cell (a : Ad) : ∀ xs y Q, P_law_cell a xs y Q → xs.length = 2 := by
  intro xs y Q h
  simp only [P_law_cell, P_law0, R2s, R1s, P_law_quotient] at h
  (first | (obtain ⟨_, _, _, _, _, _, _, _, rfl, _⟩ := h; rfl) | (obtain ⟨_, _, _, _, _, _, _, rfl, _⟩ := h; rfl) | (obtain ⟨_, _, _, _, _, _, rfl, _⟩ := h; rfl) | (obtain ⟨_, _, _, _, _, rfl, _⟩ := h; rfl) | (obtain ⟨_, _, _, _, rfl, _⟩ := h; rfl) | (obtain ⟨_, _, _, rfl, _⟩ := h; rfl) | (obtain ⟨_, _, rfl, _⟩ := h; rfl) | (obtain ⟨_, rfl, _⟩ := h; rfl) | (obtain ⟨rfl, _⟩ := h; rfl))
theorem len_law_mix (a : Ad) : ∀ xs y Q, P_law_mix a xs y Q → xs.length = 3 := by
  intro xs y Q h
  simp only [P_law_mix, P_law0, R2s, R1s, P_law_quotient] at h
  (first | (obtain ⟨_, _, _, _, _, _, _, _, rfl, _⟩ := h; rfl) | (obtain ⟨_, _, _, _, _, _, _, rfl, _⟩ := h; rfl) | (obtain ⟨_, _, _, _, _, _, rfl, _⟩ := h; rfl) | (obtain ⟨_, _, _, _, _, rfl, _⟩ := h; rfl) | (obtain ⟨_, _, _, _, rfl, _⟩ := h; rfl) | (obtain ⟨_, _, _, rfl, _⟩ := h; rfl) | (obtain ⟨_, _, rfl, _⟩ := h; rfl) | (obtain ⟨_, rfl, _⟩ := h; rfl) | (obtain ⟨rfl, _⟩ := h; rfl))
theorem len_law_draws (a : Ad) : ∀ xs y Q, P_law_draws a xs y Q → xs.length = 3 := by
  intro xs y Q h
  simp only [P_law_draws, P_law0, R2s, R1s, P_law_quotient] at h
  (first | (obtain ⟨_, _, _, _, _, _, _, _, rfl, _⟩ := h; rfl) | (obtain ⟨_, _, _, _, _, _, _, rfl, _⟩ := h; rfl) | (obtain ⟨_, _, _, _, _, _, rfl, _⟩ := h; rfl) | (obtain ⟨_, _, _, _, _, rfl, _⟩ := h; rfl) | (obtain ⟨_, _, _, _, rfl, _⟩ := h; rfl) | (obtain ⟨_, _, _, rfl, _⟩ := h; rfl) | (obtain ⟨_, _, rfl, _⟩ := h; rfl) | (obtain ⟨_, rfl, _⟩ := h; rfl) | (obtain ⟨rfl, _⟩ := h; rfl))
theorem len_law_small (a : Ad) : ∀ xs y Q, P_law_small a xs y Q → xs.length = 1 := by
  intro xs y Q h
  simp only [P_law_small, P_law0, R2s, R1s, P_law_quotient] at h
  (first | (obtain ⟨_, _, _, _, _, _, _, _, rfl, _⟩ := h; rfl) | (obtain ⟨_, _, _, _, _, _, _, rfl, _⟩ := h; rfl) | (obtain ⟨_, _, _, _, _, _, rfl, _⟩ := h; rfl) | (obtain ⟨_, _, _, _, _, rfl, _⟩ := h; rfl) | (obtain ⟨_, _, _, _, rfl, _⟩ := h; rfl) | (obtain ⟨_, _, _, rfl, _⟩ := h; rfl) | (obtain ⟨_, _, rfl, _⟩ := h; rfl) | (obtain ⟨_, rfl, _⟩ := h; rfl) | (obtain ⟨rfl, _⟩ := h; rfl))
theorem len_law_is_integer (a : Ad) : ∀ xs y Q, P_law_is_integer a xs y Q → xs.length = 1 := by
  intro xs y Q h
  simp only [P_law_is_integer, P_law0, R2s, R1s, P_law_quotient] at h
  (first | (obtain ⟨_, _, _, _, _, _, _, _, rfl, _⟩ := h; rfl) | (obtain ⟨_, _, _, _, _, _, _, rfl, _⟩ := h; rfl) | (obtain ⟨_, _, _, _, _, _, rfl, _⟩ := h; rfl) | (obtain ⟨_, _, _, _, _, rfl, _⟩ := h; rfl) | (obtain ⟨_, _, _, _, rfl, _⟩ := h; rfl) | (obtain ⟨_, _, _, rfl, _⟩ := h; rfl) | (obtain ⟨_, _, rfl, _⟩ := h; rfl) | (obtain ⟨_, rfl, _⟩ := h; rfl) | (obtain ⟨rfl, _⟩ := h; rfl))
theorem len_law_gcd (a : Ad) : ∀ xs y Q, P_law_gcd a xs y Q → xs.length = 2 := by
  intro xs y Q h
  simp only [P_law_gcd, P_law0, R2s, R1s, P_law_quotient] at h
  (first | (obtain ⟨_, _, _, _, _, _, _, _, rfl, _⟩ := h; rfl) | (obtain ⟨_, _, _, _, _, _, _, rfl, _⟩ := h; rfl) | (obtain ⟨_, _, _, _, _, _, rfl, _⟩ := h; rfl) | (obtain ⟨_, _, _, _, _, rfl, _⟩ := h; rfl) | (obtain ⟨_, _, _, _, rfl, _⟩ := h; rfl) | (obtain ⟨_, _, _, rfl, _⟩ := h; rfl) | (obtain ⟨_, _, rfl, _⟩ := h; rfl) | (obtain ⟨_, rfl, _⟩ := h; rfl) | (obtain ⟨rfl, _⟩ := h; rfl))
theorem len_law_ratio (a : Ad) : ∀ xs y Q, P_law_ratio a xs y Q → xs.length = 2 := by
  intro xs y Q h
  simp only [P_law_ratio, P_law0, R2s, R1s, P_law_quotient] at h
  (first | (obtain ⟨_, _, _, _, _, _, _, _, rfl, _⟩ := h; rfl) | (obtain ⟨_, _, _, _, _, _, _, rfl, _⟩ := h; rfl) | (obtain ⟨_, _, _, _, _, _, rfl, _⟩ := h; rfl) | (obtain ⟨_, _, _, _, _, rfl, _⟩ := h; rfl) | (obtain ⟨_, _, _, _, rfl, _⟩ := h; rfl) | (obtain ⟨_, _, _, rfl, _⟩ := h; rfl) | (obtain ⟨_, _, rfl, _⟩ := h; rfl) | (obtain ⟨_, rfl, _⟩ := h; rfl) | (obtain ⟨rfl, _⟩ := h; rfl))
theorem len_law_numbers (a : Ad) : ∀ xs y Q, P_law_numbers a xs y Q → xs.length = 1 := by
  intro xs y Q h
  simp only [P_law_numbers, P_law0, R2s, R1s, P_law_quotient] at h
  (first | (obtain ⟨_, _, _, _, _, _, _, _, rfl, _⟩ := h; rfl) | (obtain ⟨_, _, _, _, _, _, _, rfl, _⟩ := h; rfl) | (obtain ⟨_, _, _, _, _, _, rfl, _⟩ := h; rfl) | (obtain ⟨_, _, _, _, _, rfl, _⟩ := h; rfl) | (obtain ⟨_, _, _, _, rfl, _⟩ := h; rfl) | (obtain ⟨_, _, _, rfl, _⟩ := h; rfl) | (obtain ⟨_, _, rfl, _⟩ := h; rfl) | (obtain ⟨_, rfl, _⟩ := h; rfl) | (obtain ⟨rfl, _⟩ := h; rfl))
theorem len_law_is (a : Ad) : ∀ xs y Q, P_law_is a xs y Q → xs.length = 2 := by
  intro xs y Q h
  simp only [P_law_is, P_law0, R2s, R1s, P_law_quotient] at h
  (first | (obtain ⟨_, _, _, _, _, _, _, _, rfl, _⟩ := h; rfl) | (obtain ⟨_, _, _, _, _, _, _, rfl, _⟩ := h; rfl) | (obtain ⟨_, _, _, _, _, _, rfl, _⟩ := h; rfl) | (obtain ⟨_, _, _, _, _, rfl, _⟩ := h; rfl) | (obtain ⟨_, _, _, _, rfl, _⟩ := h; rfl) | (obtain ⟨_, _, _, rfl, _⟩ := h; rfl) | (obtain ⟨_, _, rfl, _⟩ := h; rfl) | (obtain ⟨_, rfl, _⟩ := h; rfl) | (obtain ⟨rfl, _⟩ := h; rfl))
theorem len_law_truth (a : Ad) : ∀ xs y Q, P_law_truth a xs y Q → xs.length = 2 := by
  intro xs y Q h
  simp only [P_law_truth, P_law0, R2s, R1s, P_law_quotient] at h
  (first | (obtain ⟨_, _, _, _, _, _, _, _, rfl, _⟩ := h; rfl) | (obtain ⟨_, _, _, _, _, _, _, rfl, _⟩ := h; rfl) | (obtain ⟨_, _, _, _, _, _, rfl, _⟩ := h; rfl) | (obtain ⟨_, _, _, _, _, rfl, _⟩ := h; rfl) | (obtain ⟨_, _, _, _, rfl, _⟩ := h; rfl) | (obtain ⟨_, _, _, rfl, _⟩ := h; rfl) | (obtain ⟨_, _, rfl, _⟩ := h; rfl) | (obtain ⟨_, rfl, _⟩ := h; rfl) | (obtain ⟨rfl, _⟩ := h; rfl))
theorem len_law_dues (a : Ad) : ∀ xs y Q, P_law_dues a xs y Q → xs.length = 2 := by
  intro xs y Q h
  simp only [P_law_dues, P_law0, R2s, R1s, P_law_quotient] at h
  (first | (obtain ⟨_, _, _, _, _, _, _, _, rfl, _⟩ := h; rfl) | (obtain ⟨_, _, _, _, _, _, _, rfl, _⟩ := h; rfl) | (obtain ⟨_, _, _, _, _, _, rfl, _⟩ := h; rfl) | (obtain ⟨_, _, _, _, _, rfl, _⟩ := h; rfl) | (obtain ⟨_, _, _, _, rfl, _⟩ := h; rfl) | (obtain ⟨_, _, _, rfl, _⟩ := h; rfl) | (obtain ⟨_, _, rfl, _⟩ := h; rfl) | (obtain ⟨_, rfl, _⟩ := h; rfl) | (obtain ⟨rfl, _⟩ := h; rfl))
theorem len_law_results (a : Ad) : ∀ xs y Q, P_law_results a xs y Q → xs.length = 4 := by
  intro xs y Q h
  simp only [P_law_results, P_law0, R2s, R1s, P_law_quotient] at h
  (first | (obtain ⟨_, _, _, _, _, _, _, _, rfl, _⟩ := h; rfl) | (obtain ⟨_, _, _, _, _, _, _, rfl, _⟩ := h; rfl) | (obtain ⟨_, _, _, _, _, _, rfl, _⟩ := h; rfl) | (obtain ⟨_, _, _, _, _, rfl, _⟩ := h; rfl) | (obtain ⟨_, _, _, _, rfl, _⟩ := h; rfl) | (obtain ⟨_, _, _, rfl, _⟩ := h; rfl) | (obtain ⟨_, _, rfl, _⟩ := h; rfl) | (obtain ⟨_, rfl, _⟩ := h; rfl) | (obtain ⟨rfl, _⟩ := h; rfl))
theorem len_law_quotient (a : Ad) : ∀ xs y Q, P_law_quotient a xs y Q → xs.length = 4 := by
  intro xs y Q h
  simp only [P_law_quotient, P_law0, R2s, R1s, P_law_quotient] at h
  (first | (obtain ⟨_, _, _, _, _, _, _, _, rfl, _⟩ := h; rfl) | (obtain ⟨_, _, _, _, _, _, _, rfl, _⟩ := h; rfl) | (obtain ⟨_, _, _, _, _, _, rfl, _⟩ := h; rfl) | (obtain ⟨_, _, _, _, _, rfl, _⟩ := h; rfl) | (obtain ⟨_, _, _, _, rfl, _⟩ := h; rfl) | (obtain ⟨_, _, _, rfl, _⟩ := h; rfl) | (obtain ⟨_, _, rfl, _⟩ := h; rfl) | (obtain ⟨_, rfl, _⟩ := h; rfl) | (obtain ⟨rfl, _⟩ := h; rfl))
theorem len_law_order (a : Ad) : ∀ xs y Q, P_law_order a xs y Q → xs.length = 4 := by
  intro xs y Q h
  simp only [P_law_order, P_law0, R2s, R1s, P_law_quotient] at h
  (first | (obtain ⟨_, _, _, _, _, _, _, _, rfl, _⟩ := h; rfl) | (obtain ⟨_, _, _, _, _, _, _, rfl, _⟩ := h; rfl) | (obtain ⟨_, _, _, _, _, _, rfl, _⟩ := h; rfl) | (obtain ⟨_, _, _, _, _, rfl, _⟩ := h; rfl) | (obtain ⟨_, _, _, _, rfl, _⟩ := h; rfl) | (obtain ⟨_, _, _, rfl, _⟩ := h; rfl) | (obtain ⟨_, _, rfl, _⟩ := h; rfl) | (obtain ⟨_, rfl, _⟩ := h; rfl) | (obtain ⟨rfl, _⟩ := h; rfl))
theorem len_law_zero_bottom (a : Ad) : ∀ xs y Q, P_law_zero_bottom a xs y Q → xs.length = 1 := by
  intro xs y Q h
  simp only [P_law_zero_bottom, P_law0, R2s, R1s, P_law_quotient] at h
  (first | (obtain ⟨_, _, _, _, _, _, _, _, rfl, _⟩ := h; rfl) | (obtain ⟨_, _, _, _, _, _, _, rfl, _⟩ := h; rfl) | (obtain ⟨_, _, _, _, _, _, rfl, _⟩ := h; rfl) | (obtain ⟨_, _, _, _, _, rfl, _⟩ := h; rfl) | (obtain ⟨_, _, _, _, rfl, _⟩ := h; rfl) | (obtain ⟨_, _, _, rfl, _⟩ := h; rfl) | (obtain ⟨_, _, rfl, _⟩ := h; rfl) | (obtain ⟨_, rfl, _⟩ := h; rfl) | (obtain ⟨rfl, _⟩ := h; rfl))
theorem len_law (a : Ad) : ∀ xs y Q, P_law a xs y Q → xs.length = 1 := by
  intro xs y Q h
  simp only [P_law, P_law0, R2s, R1s, P_law_quotient] at h
  (first | (obtain ⟨_, _, _, _, _, _, _, _, rfl, _⟩ := h; rfl) | (obtain ⟨_, _, _, _, _, _, _, rfl, _⟩ := h; rfl) | (obtain ⟨_, _, _, _, _, _, rfl, _⟩ := h; rfl) | (obtain ⟨_, _, _, _, _, rfl, _⟩ := h; rfl) | (obtain ⟨_, _, _, _, rfl, _⟩ := h; rfl) | (obtain ⟨_, _, _, rfl, _⟩ := h; rfl) | (obtain ⟨_, _, rfl, _⟩ := h; rfl) | (obtain ⟨_, rfl, _⟩ := h; rfl) | (obtain ⟨rfl, _⟩ := h; rfl))
section
variable {P : Program} {w : World} {K : PySem.W.Frag} {mg : Str → Option Value} {base : Heap} {a : Ad} {d : Fd}
def xv_ZeroBottom : List V → List (Str × V) := fun ws => [("word", .str "bottom")]
def xp_ZeroBottom : List PV → List (Str × PV) := fun xs => [("word", .str "bottom")]
theorem xf_ZeroBottom : FldR K xv_ZeroBottom xp_ZeroBottom := by
  intro G xs vs r
  unfold xv_ZeroBottom xp_ZeroBottom
  refine .cons (.str _) ?_
  exact .nil
theorem ok_xZeroBottom (T : Txt K mg a) (S : Fs K a d) : FnOk P w K mg base (L2.CX P w) 1 a.f_xZeroBottom d.d_xZeroBottom ["self"] (spX a.C_ZeroBottom 0 xv_ZeroBottom) := by
  refine FunD.ok (k := 0) S.XF_ZeroBottom sc_xZeroBottom (fun vs H Q E h => ?_) (fun cdv A outer s H vs Q E hr h => ⟨_, (pss_one (ps_ost (pv 0) pe_str)), ?_⟩)
  · obtain ⟨x, ws, rfl, hn, _⟩ := h
    show ws.length + 1 = _
    rw [hn]
    all_goals rfl
  · obtain ⟨x, ws, rfl, hn, hx, k⟩ := h
    cases ws with
    | cons _ _ => cases hn
    | nil =>
      refine ⟨_, rfl, x, a.C_ZeroBottom, rfl, T.ox_ZeroBottom, T.na_ZeroBottom_word, .inl ⟨hx, fun dx hd hne => ?_⟩⟩
      exact k dx _ hd hne upd_same (x_at2 hne) (fun b h1 h2 => by rw [upd_ne h1, upd_ne h2])

theorem ok_shared_part (T : Txt K mg a) (S : Fs K a d) : FnOk P w K mg base (L2.CX P w) 1 a.f_shared_part d.d_shared_part ["tops", "bottom"] (spP K (P_shared_part a)) := by
  refine fa_q (k := 0) S.F_shared_part sc_shared_part (len_shared_part a) (fun cdv A outer s H E hr =>
    (jss_cons (js_set 2 sc_shared_part.nd (je_abs T.b_abs (ja_cons (je_var 1) ja_nil)))
      (jss_cut (js_forL 3 (passes_of rfl) rfl sc_shared_part.nd (je_var 0)
        (jss_cons (js_if (jt_eq (je_var 2) je_int) (jss_one js_brk) jss_nil)
      (jss_one (js_set 2 sc_shared_part.nd (je_gcd T.m_gcd (ja_cons (je_var 2) (ja_cons (je_var 3) ja_nil)))))))
      (jss_one (js_ret (je_if (jt_gt (je_var 1) je_int) (je_var 2) (je_neg (je_var 2)))))))) ?pure
  case pure =>
    rintro xs y Q ⟨ts, b, rfl, h⟩
    simp (disch := decide) only [↓qVar_eq, ↓qC_eq, ↓qOp_eq, ↓qI_eq, ↓qI0_eq, ↓qEq_eq, ↓qIsN_eq, ↓qUn_eq, ↓qNeg_eq, ↓qB_eq, ↓qNotT_eq, ↓qAndT_eq, ↓qOrT_eq, ↓qAndV_eq, ↓qOrV_eq, ↓qNotV_eq, ↓qIf_eq, ↓qNil_eq, ↓qCons_eq, ↓qTup_eq, ↓qLst_eq, ↓qPart_eq, ↓qNoPart_eq, ↓qSl_eq, ↓qNext_eq, ↓qSeq_eq, ↓qBreak_eq, ↓qCont_eq, ↓qDrop_eq, ↓qRet_eq, ↓qRetN_eq, ↓qIfS_eq, ↓qNever_eq, ↓qSet_eq, ↓qOwn_eq, ↓qFreeze_eq, ↓qApp_eq, ↓qPar_eq, ↓qUnp_eq, ↓qUnpL_eq, ↓qFldS_eq, ↓qForL_eq, ↓qForT_eq, ↓qForR1_eq, ↓qForR2_eq, ↓qCall_eq, ↓qMake_eq, ↓qMeth_eq, ↓qProp_eq, ↓qCB_eq, ↓cAbs_eq, ↓cInt_eq, ↓cGcd_eq, ↓cLen_eq, ↓cLenS_eq, ↓qBits_eq, ↓qIsi_eq, ↓qBin_eq, ↓qUna_eq, ↓cAbsO_eq, ↓qEqO_eq, ↓qRaise_eq, ↓qTry_eq, ↓qXi_eq, ↓qLenO_eq, ↓qForR3_eq, ↓qIx_l, ↓qIx_t, ↓qFld_eq, ↓qXf_eq, ↓qSetIx_eq, ↓qIxO_eq, ↓qEqD_eq, ↓tryD_nx, ↓tryD_rt, ↓tryD_bk, ↓tryD_ct, ↓tryD_ex, ↓endsP_nx, ↓endsP_rt, ↓endsP_ex, ↓endsI_nx, ↓endsI_rt, ↓endsI_ex, ↓iAdd, ↓iSub, ↓iMul, ↓iDiv, ↓iMod, ↓iPow, ↓iLt, ↓iLe, ↓iGt, ↓iGe, atI_l0, atI_l1, atI_l2, atI_l3, atI_l4, atI_l5, atI_l6, atI_l7, atI_l8, atI_l9, atI_l10, atI_l11, atI_l12, lookup_hd, lookup_tl, putP_nil, putP_hd, putP_tl, List.lookup_nil, true_and, and_true, ↓reduceIte, if_true, if_false, exists_eq_left', exists_eq_left, Option.some.injEq, Sl.ins.injEq, Bool.false_xor, Bool.true_xor, beq_iff_eq, decide_eq_true_eq, Bool.not_true, Bool.not_false, Bool.false_eq_true, Nat.reduceLeDiff, Nat.reduceLT, Bool.not_eq_true', beq_eq_false_iff_ne, decide_eq_false_iff_not, reduceCtorEq, ne_eq, not_false_eq_true, not_true_eq_false, true_imp_iff, false_imp_iff, forall_const, beq_self_eq_true, Bool.and_self, isiInt, isiBool, isiStr, isiC, nfC, inL, startP, startI, setAll, List.map_cons, List.map_nil, List.length_cons, List.length_nil, List.cons_append, List.nil_append, List.append_nil, List.replicate, List.getElem?_cons_zero, List.getElem?_cons_succ, List.set_cons_zero, List.set_cons_succ, Nat.reduceSub, Nat.reduceAdd, List.getD_cons_zero]
    refine ⟨fun ρ => ∃ v, ρ = [some (.pv (.lst (ts.map PV.int))), some (.pv (.int b)), some (.pv (.int (sharedN ts (if b < 0 then -b else b)))), v], ?_, ?_⟩
    · have key : ∀ (us : List Int) (p : Int) (v : Option Sl) (D : QD), (∀ v', D.nx [some (.pv (.lst (ts.map PV.int))), some (.pv (.int b)), some (.pv (.int (sharedN us p))), v']) →
          qLoop 3 (qSeq (qIfS (qB (qOp (qEq false) (qVar 2) (qC (PV.int 1)))) qBreak qNext) (qSet 2 (qCB cGcd (qCons (qVar 2) (qCons (qVar 3) qNil))))) D (us.map PV.int) [some (.pv (.lst (ts.map PV.int))), some (.pv (.int b)), some (.pv (.int p)), v] := by
        intro us
        induction us with
        | nil => intro p v D hD; exact hD v
        | cons u us ih =>
          intro p v D hD
          show qSeq _ _ _ _
          simp (disch := decide) only [↓qVar_eq, ↓qC_eq, ↓qOp_eq, ↓qI_eq, ↓qI0_eq, ↓qEq_eq, ↓qIsN_eq, ↓qUn_eq, ↓qNeg_eq, ↓qB_eq, ↓qNotT_eq, ↓qAndT_eq, ↓qOrT_eq, ↓qAndV_eq, ↓qOrV_eq, ↓qNotV_eq, ↓qIf_eq, ↓qNil_eq, ↓qCons_eq, ↓qTup_eq, ↓qLst_eq, ↓qPart_eq, ↓qNoPart_eq, ↓qSl_eq, ↓qNext_eq, ↓qSeq_eq, ↓qBreak_eq, ↓qCont_eq, ↓qDrop_eq, ↓qRet_eq, ↓qRetN_eq, ↓qIfS_eq, ↓qNever_eq, ↓qSet_eq, ↓qOwn_eq, ↓qFreeze_eq, ↓qApp_eq, ↓qPar_eq, ↓qUnp_eq, ↓qUnpL_eq, ↓qFldS_eq, ↓qForL_eq, ↓qForT_eq, ↓qForR1_eq, ↓qForR2_eq, ↓qCall_eq, ↓qMake_eq, ↓qMeth_eq, ↓qProp_eq, ↓qCB_eq, ↓cAbs_eq, ↓cInt_eq, ↓cGcd_eq, ↓cLen_eq, ↓cLenS_eq, ↓qBits_eq, ↓qIsi_eq, ↓qBin_eq, ↓qUna_eq, ↓cAbsO_eq, ↓qEqO_eq, ↓qRaise_eq, ↓qTry_eq, ↓qXi_eq, ↓qLenO_eq, ↓qForR3_eq, ↓qIx_l, ↓qIx_t, ↓qFld_eq, ↓qXf_eq, ↓qSetIx_eq, ↓qIxO_eq, ↓qEqD_eq, ↓tryD_nx, ↓tryD_rt, ↓tryD_bk, ↓tryD_ct, ↓tryD_ex, ↓endsP_nx, ↓endsP_rt, ↓endsP_ex, ↓endsI_nx, ↓endsI_rt, ↓endsI_ex, ↓iAdd, ↓iSub, ↓iMul, ↓iDiv, ↓iMod, ↓iPow, ↓iLt, ↓iLe, ↓iGt, ↓iGe, atI_l0, atI_l1, atI_l2, atI_l3, atI_l4, atI_l5, atI_l6, atI_l7, atI_l8, atI_l9, atI_l10, atI_l11, atI_l12, lookup_hd, lookup_tl, putP_nil, putP_hd, putP_tl, List.lookup_nil, true_and, and_true, ↓reduceIte, if_true, if_false, exists_eq_left', exists_eq_left, Option.some.injEq, Sl.ins.injEq, Bool.false_xor, Bool.true_xor, beq_iff_eq, decide_eq_true_eq, Bool.not_true, Bool.not_false, Bool.false_eq_true, Nat.reduceLeDiff, Nat.reduceLT, Bool.not_eq_true', beq_eq_false_iff_ne, decide_eq_false_iff_not, reduceCtorEq, ne_eq, not_false_eq_true, not_true_eq_false, true_imp_iff, false_imp_iff, forall_const, beq_self_eq_true, Bool.and_self, isiInt, isiBool, isiStr, isiC, nfC, inL, startP, startI, setAll, List.map_cons, List.map_nil, List.length_cons, List.length_nil, List.cons_append, List.nil_append, List.append_nil, List.replicate, List.getElem?_cons_zero, List.getElem?_cons_succ, List.set_cons_zero, List.set_cons_succ, Nat.reduceSub, Nat.reduceAdd, List.getD_cons_zero]
          split
          · rename_i hp
            have := hD (some (.pv (.int u)))
            rw [show sharedN (u :: us) p = p from if_pos hp] at this
            exact this
          · rename_i hp
            refine ih _ _ _ fun v' => ?_
            have := hD v'
            rw [show sharedN (u :: us) p = sharedN us (gcdZ p u) from if_neg hp] at this
            exact this
      exact key ts _ none _ fun v' => ⟨v', rfl⟩
    · rintro ρ' ⟨v, rfl⟩
      simp (disch := decide) only [↓qVar_eq, ↓qC_eq, ↓qOp_eq, ↓qI_eq, ↓qI0_eq, ↓qEq_eq, ↓qIsN_eq, ↓qUn_eq, ↓qNeg_eq, ↓qB_eq, ↓qNotT_eq, ↓qAndT_eq, ↓qOrT_eq, ↓qAndV_eq, ↓qOrV_eq, ↓qNotV_eq, ↓qIf_eq, ↓qNil_eq, ↓qCons_eq, ↓qTup_eq, ↓qLst_eq, ↓qPart_eq, ↓qNoPart_eq, ↓qSl_eq, ↓qNext_eq, ↓qSeq_eq, ↓qBreak_eq, ↓qCont_eq, ↓qDrop_eq, ↓qRet_eq, ↓qRetN_eq, ↓qIfS_eq, ↓qNever_eq, ↓qSet_eq, ↓qOwn_eq, ↓qFreeze_eq, ↓qApp_eq, ↓qPar_eq, ↓qUnp_eq, ↓qUnpL_eq, ↓qFldS_eq, ↓qForL_eq, ↓qForT_eq, ↓qForR1_eq, ↓qForR2_eq, ↓qCall_eq, ↓qMake_eq, ↓qMeth_eq, ↓qProp_eq, ↓qCB_eq, ↓cAbs_eq, ↓cInt_eq, ↓cGcd_eq, ↓cLen_eq, ↓cLenS_eq, ↓qBits_eq, ↓qIsi_eq, ↓qBin_eq, ↓qUna_eq, ↓cAbsO_eq, ↓qEqO_eq, ↓qRaise_eq, ↓qTry_eq, ↓qXi_eq, ↓qLenO_eq, ↓qForR3_eq, ↓qIx_l, ↓qIx_t, ↓qFld_eq, ↓qXf_eq, ↓qSetIx_eq, ↓qIxO_eq, ↓qEqD_eq, ↓tryD_nx, ↓tryD_rt, ↓tryD_bk, ↓tryD_ct, ↓tryD_ex, ↓endsP_nx, ↓endsP_rt, ↓endsP_ex, ↓endsI_nx, ↓endsI_rt, ↓endsI_ex, ↓iAdd, ↓iSub, ↓iMul, ↓iDiv, ↓iMod, ↓iPow, ↓iLt, ↓iLe, ↓iGt, ↓iGe, atI_l0, atI_l1, atI_l2, atI_l3, atI_l4, atI_l5, atI_l6, atI_l7, atI_l8, atI_l9, atI_l10, atI_l11, atI_l12, lookup_hd, lookup_tl, putP_nil, putP_hd, putP_tl, List.lookup_nil, true_and, and_true, ↓reduceIte, if_true, if_false, exists_eq_left', exists_eq_left, Option.some.injEq, Sl.ins.injEq, Bool.false_xor, Bool.true_xor, beq_iff_eq, decide_eq_true_eq, Bool.not_true, Bool.not_false, Bool.false_eq_true, Nat.reduceLeDiff, Nat.reduceLT, Bool.not_eq_true', beq_eq_false_iff_ne, decide_eq_false_iff_not, reduceCtorEq, ne_eq, not_false_eq_true, not_true_eq_false, true_imp_iff, false_imp_iff, forall_const, beq_self_eq_true, Bool.and_self, isiInt, isiBool, isiStr, isiC, nfC, inL, startP, startI, setAll, List.map_cons, List.map_nil, List.length_cons, List.length_nil, List.cons_append, List.nil_append, List.append_nil, List.replicate, List.getElem?_cons_zero, List.getElem?_cons_succ, List.set_cons_zero, List.set_cons_succ, Nat.reduceSub, Nat.reduceAdd, List.getD_cons_zero]
      unfold shared at h
      split
      · rename_i hb
        rw [if_pos hb] at h
        exact h
      · rename_i hb
        rw [if_neg hb] at h
        exact h

theorem ok_Ratio_init (T : Txt K mg a) (S : Fs K a d) : FnOk P w K mg base (L2.CX P w) 3 a.f_Ratio_init d.d_Ratio_init ["self", "top", "bottom"] (spI K a.C_Ratio (I_Ratio_init a)) := by
  refine fa_qI (k := 2) S.F_Ratio_init sc_Ratio_init (len_Ratio_init a) (fun cdv A outer s H E hr =>
    (jss_cons (js_if (jt_eq (je_var 2) je_int) (jss_one (js_raise rfl (takes_of rfl rfl rfl rfl) (pmk_x0 T.ox_ZeroBottom T.xi_ZeroBottom T.xt_ZeroBottom (ok_xZeroBottom T S) xf_ZeroBottom (hr.mono (by decide)) S.XB_ZeroBottom T.mg_ZeroBottom))) jss_nil)
      (jss_cons (js_set 3 sc_Ratio_init.nd (je_call (ok_shared_part T S) (hr.mono (by decide)) T.mg_shared_part S.F_shared_part.kp S.B_shared_part .nil (fun _ => .nil) (tkOf (takes_of rfl rfl rfl rfl)) (ja_cons (je_lst (ja_cons (je_var 1) ja_nil)) (ja_cons (je_var 2) ja_nil))))
      (jss_cons (js_fld 0 T.cl_Ratio T.na_Ratio_top (je_div (je_var 1) (je_var 3)))
      (jss_one (js_fld 0 T.cl_Ratio T.na_Ratio_bottom (je_div (je_var 2) (je_var 3)))))))) ?pure
  case pure =>
    rintro ad xs y Q ⟨t, b, rfl, h0, h1⟩
    simp (disch := decide) only [↓qVar_eq, ↓qC_eq, ↓qOp_eq, ↓qI_eq, ↓qI0_eq, ↓qEq_eq, ↓qIsN_eq, ↓qUn_eq, ↓qNeg_eq, ↓qB_eq, ↓qNotT_eq, ↓qAndT_eq, ↓qOrT_eq, ↓qAndV_eq, ↓qOrV_eq, ↓qNotV_eq, ↓qIf_eq, ↓qNil_eq, ↓qCons_eq, ↓qTup_eq, ↓qLst_eq, ↓qPart_eq, ↓qNoPart_eq, ↓qSl_eq, ↓qNext_eq, ↓qSeq_eq, ↓qBreak_eq, ↓qCont_eq, ↓qDrop_eq, ↓qRet_eq, ↓qRetN_eq, ↓qIfS_eq, ↓qNever_eq, ↓qSet_eq, ↓qOwn_eq, ↓qFreeze_eq, ↓qApp_eq, ↓qPar_eq, ↓qUnp_eq, ↓qUnpL_eq, ↓qFldS_eq, ↓qForL_eq, ↓qForT_eq, ↓qForR1_eq, ↓qForR2_eq, ↓qCall_eq, ↓qMake_eq, ↓qMeth_eq, ↓qProp_eq, ↓qCB_eq, ↓cAbs_eq, ↓cInt_eq, ↓cGcd_eq, ↓cLen_eq, ↓cLenS_eq, ↓qBits_eq, ↓qIsi_eq, ↓qBin_eq, ↓qUna_eq, ↓cAbsO_eq, ↓qEqO_eq, ↓qRaise_eq, ↓qTry_eq, ↓qXi_eq, ↓qLenO_eq, ↓qForR3_eq, ↓qIx_l, ↓qIx_t, ↓qFld_eq, ↓qXf_eq, ↓qSetIx_eq, ↓qIxO_eq, ↓qEqD_eq, ↓tryD_nx, ↓tryD_rt, ↓tryD_bk, ↓tryD_ct, ↓tryD_ex, ↓endsP_nx, ↓endsP_rt, ↓endsP_ex, ↓endsI_nx, ↓endsI_rt, ↓endsI_ex, ↓iAdd, ↓iSub, ↓iMul, ↓iDiv, ↓iMod, ↓iPow, ↓iLt, ↓iLe, ↓iGt, ↓iGe, atI_l0, atI_l1, atI_l2, atI_l3, atI_l4, atI_l5, atI_l6, atI_l7, atI_l8, atI_l9, atI_l10, atI_l11, atI_l12, lookup_hd, lookup_tl, putP_nil, putP_hd, putP_tl, List.lookup_nil, true_and, and_true, ↓reduceIte, if_true, if_false, exists_eq_left', exists_eq_left, Option.some.injEq, Sl.ins.injEq, Bool.false_xor, Bool.true_xor, beq_iff_eq, decide_eq_true_eq, Bool.not_true, Bool.not_false, Bool.false_eq_true, Nat.reduceLeDiff, Nat.reduceLT, Bool.not_eq_true', beq_eq_false_iff_ne, decide_eq_false_iff_not, reduceCtorEq, ne_eq, not_false_eq_true, not_true_eq_false, true_imp_iff, false_imp_iff, forall_const, beq_self_eq_true, Bool.and_self, isiInt, isiBool, isiStr, isiC, nfC, inL, startP, startI, setAll, List.map_cons, List.map_nil, List.length_cons, List.length_nil, List.cons_append, List.nil_append, List.append_nil, List.replicate, List.getElem?_cons_zero, List.getElem?_cons_succ, List.set_cons_zero, List.set_cons_succ, Nat.reduceSub, Nat.reduceAdd, List.getD_cons_zero]
    split
    · rename_i hb
      exact h0 hb
    · rename_i hb
      obtain ⟨hs, h1⟩ := h1 hb
      refine ⟨[t], b, rfl, ?_⟩
      simp (disch := decide) only [↓qVar_eq, ↓qC_eq, ↓qOp_eq, ↓qI_eq, ↓qI0_eq, ↓qEq_eq, ↓qIsN_eq, ↓qUn_eq, ↓qNeg_eq, ↓qB_eq, ↓qNotT_eq, ↓qAndT_eq, ↓qOrT_eq, ↓qAndV_eq, ↓qOrV_eq, ↓qNotV_eq, ↓qIf_eq, ↓qNil_eq, ↓qCons_eq, ↓qTup_eq, ↓qLst_eq, ↓qPart_eq, ↓qNoPart_eq, ↓qSl_eq, ↓qNext_eq, ↓qSeq_eq, ↓qBreak_eq, ↓qCont_eq, ↓qDrop_eq, ↓qRet_eq, ↓qRetN_eq, ↓qIfS_eq, ↓qNever_eq, ↓qSet_eq, ↓qOwn_eq, ↓qFreeze_eq, ↓qApp_eq, ↓qPar_eq, ↓qUnp_eq, ↓qUnpL_eq, ↓qFldS_eq, ↓qForL_eq, ↓qForT_eq, ↓qForR1_eq, ↓qForR2_eq, ↓qCall_eq, ↓qMake_eq, ↓qMeth_eq, ↓qProp_eq, ↓qCB_eq, ↓cAbs_eq, ↓cInt_eq, ↓cGcd_eq, ↓cLen_eq, ↓cLenS_eq, ↓qBits_eq, ↓qIsi_eq, ↓qBin_eq, ↓qUna_eq, ↓cAbsO_eq, ↓qEqO_eq, ↓qRaise_eq, ↓qTry_eq, ↓qXi_eq, ↓qLenO_eq, ↓qForR3_eq, ↓qIx_l, ↓qIx_t, ↓qFld_eq, ↓qXf_eq, ↓qSetIx_eq, ↓qIxO_eq, ↓qEqD_eq, ↓tryD_nx, ↓tryD_rt, ↓tryD_bk, ↓tryD_ct, ↓tryD_ex, ↓endsP_nx, ↓endsP_rt, ↓endsP_ex, ↓endsI_nx, ↓endsI_rt, ↓endsI_ex, ↓iAdd, ↓iSub, ↓iMul, ↓iDiv, ↓iMod, ↓iPow, ↓iLt, ↓iLe, ↓iGt, ↓iGe, atI_l0, atI_l1, atI_l2, atI_l3, atI_l4, atI_l5, atI_l6, atI_l7, atI_l8, atI_l9, atI_l10, atI_l11, atI_l12, lookup_hd, lookup_tl, putP_nil, putP_hd, putP_tl, List.lookup_nil, true_and, and_true, ↓reduceIte, if_true, if_false, exists_eq_left', exists_eq_left, Option.some.injEq, Sl.ins.injEq, Bool.false_xor, Bool.true_xor, beq_iff_eq, decide_eq_true_eq, Bool.not_true, Bool.not_false, Bool.false_eq_true, Nat.reduceLeDiff, Nat.reduceLT, Bool.not_eq_true', beq_eq_false_iff_ne, decide_eq_false_iff_not, reduceCtorEq, ne_eq, not_false_eq_true, not_true_eq_false, true_imp_iff, false_imp_iff, forall_const, beq_self_eq_true, Bool.and_self, isiInt, isiBool, isiStr, isiC, nfC, inL, startP, startI, setAll, List.map_cons, List.map_nil, List.length_cons, List.length_nil, List.cons_append, List.nil_append, List.append_nil, List.replicate, List.getElem?_cons_zero, List.getElem?_cons_succ, List.set_cons_zero, List.set_cons_succ, Nat.reduceSub, Nat.reduceAdd, List.getD_cons_zero]
      exact ⟨divW (sh_sz hs hb) (sh_ne hb) (by decide), divW (sh_sz hs hb) (sh_ne hb) (by decide), h1⟩

theorem ok_Ratio_sign (T : Txt K mg a) (S : Fs K a d) : FnOk P w K mg base (L2.CX P w) 1 a.f_Ratio_sign d.d_Ratio_sign ["self"] (spP K (P_Ratio_sign a)) := by
  refine fa_q (k := 0) S.F_Ratio_sign sc_Ratio_sign (len_Ratio_sign a) (fun cdv A outer s H E hr =>
    (jss_cons (js_if (jt_lt (je_fld (je_var 0) T.cl_Ratio T.na_Ratio_top) je_int) (jss_one (js_ret (je_neg je_int))) jss_nil)
      (jss_one (js_ret (je_if (jt_eq (je_fld (je_var 0) T.cl_Ratio T.na_Ratio_top) je_int) je_int je_int))))) ?pure
  case pure =>
    rintro xs y Q ⟨t, b, rfl, _, _, hb, h⟩
    simp (disch := decide) only [↓qVar_eq, ↓qC_eq, ↓qOp_eq, ↓qI_eq, ↓qI0_eq, ↓qEq_eq, ↓qIsN_eq, ↓qUn_eq, ↓qNeg_eq, ↓qB_eq, ↓qNotT_eq, ↓qAndT_eq, ↓qOrT_eq, ↓qAndV_eq, ↓qOrV_eq, ↓qNotV_eq, ↓qIf_eq, ↓qNil_eq, ↓qCons_eq, ↓qTup_eq, ↓qLst_eq, ↓qPart_eq, ↓qNoPart_eq, ↓qSl_eq, ↓qNext_eq, ↓qSeq_eq, ↓qBreak_eq, ↓qCont_eq, ↓qDrop_eq, ↓qRet_eq, ↓qRetN_eq, ↓qIfS_eq, ↓qNever_eq, ↓qSet_eq, ↓qOwn_eq, ↓qFreeze_eq, ↓qApp_eq, ↓qPar_eq, ↓qUnp_eq, ↓qUnpL_eq, ↓qFldS_eq, ↓qForL_eq, ↓qForT_eq, ↓qForR1_eq, ↓qForR2_eq, ↓qCall_eq, ↓qMake_eq, ↓qMeth_eq, ↓qProp_eq, ↓qCB_eq, ↓cAbs_eq, ↓cInt_eq, ↓cGcd_eq, ↓cLen_eq, ↓cLenS_eq, ↓qBits_eq, ↓qIsi_eq, ↓qBin_eq, ↓qUna_eq, ↓cAbsO_eq, ↓qEqO_eq, ↓qRaise_eq, ↓qTry_eq, ↓qXi_eq, ↓qLenO_eq, ↓qForR3_eq, ↓qIx_l, ↓qIx_t, ↓qFld_eq, ↓qXf_eq, ↓qSetIx_eq, ↓qIxO_eq, ↓qEqD_eq, ↓tryD_nx, ↓tryD_rt, ↓tryD_bk, ↓tryD_ct, ↓tryD_ex, ↓endsP_nx, ↓endsP_rt, ↓endsP_ex, ↓endsI_nx, ↓endsI_rt, ↓endsI_ex, ↓iAdd, ↓iSub, ↓iMul, ↓iDiv, ↓iMod, ↓iPow, ↓iLt, ↓iLe, ↓iGt, ↓iGe, atI_l0, atI_l1, atI_l2, atI_l3, atI_l4, atI_l5, atI_l6, atI_l7, atI_l8, atI_l9, atI_l10, atI_l11, atI_l12, lookup_hd, lookup_tl, putP_nil, putP_hd, putP_tl, List.lookup_nil, true_and, and_true, ↓reduceIte, if_true, if_false, exists_eq_left', exists_eq_left, Option.some.injEq, Sl.ins.injEq, Bool.false_xor, Bool.true_xor, beq_iff_eq, decide_eq_true_eq, Bool.not_true, Bool.not_false, Bool.false_eq_true, Nat.reduceLeDiff, Nat.reduceLT, Bool.not_eq_true', beq_eq_false_iff_ne, decide_eq_false_iff_not, reduceCtorEq, ne_eq, not_false_eq_true, not_true_eq_false, true_imp_iff, false_imp_iff, forall_const, beq_self_eq_true, Bool.and_self, isiInt, isiBool, isiStr, isiC, nfC, inL, startP, startI, setAll, List.map_cons, List.map_nil, List.length_cons, List.length_nil, List.cons_append, List.nil_append, List.append_nil, List.replicate, List.getElem?_cons_zero, List.getElem?_cons_succ, List.set_cons_zero, List.set_cons_succ, Nat.reduceSub, Nat.reduceAdd, List.getD_cons_zero, rat]
    split
    · rename_i hp
      rw [if_pos hp] at h
      exact h
    · rename_i hp
      rw [if_neg hp] at h
      split
      · rename_i hq
        rw [if_pos hq] at h
        exact h
      · rename_i hq
        rw [if_neg hq] at h
        exact h

theorem ok_Ratio_is_zero (T : Txt K mg a) (S : Fs K a d) : FnOk P w K mg base (L2.CX P w) 1 a.f_Ratio_is_zero d.d_Ratio_is_zero ["self"] (spP K (P_Ratio_is_zero a)) := by
  refine fa_q (k := 0) S.F_Ratio_is_zero sc_Ratio_is_zero (len_Ratio_is_zero a) (fun cdv A outer s H E hr =>
    (jss_one (js_ret (je_eq (je_fld (je_var 0) T.cl_Ratio T.na_Ratio_top) je_int)))) ?pure
  case pure =>
    rintro xs y Q ⟨t, b, rfl, h1, h2, hb, h⟩
    simp (disch := decide) only [↓qVar_eq, ↓qC_eq, ↓qOp_eq, ↓qI_eq, ↓qI0_eq, ↓qEq_eq, ↓qIsN_eq, ↓qUn_eq, ↓qNeg_eq, ↓qB_eq, ↓qNotT_eq, ↓qAndT_eq, ↓qOrT_eq, ↓qAndV_eq, ↓qOrV_eq, ↓qNotV_eq, ↓qIf_eq, ↓qNil_eq, ↓qCons_eq, ↓qTup_eq, ↓qLst_eq, ↓qPart_eq, ↓qNoPart_eq, ↓qSl_eq, ↓qNext_eq, ↓qSeq_eq, ↓qBreak_eq, ↓qCont_eq, ↓qDrop_eq, ↓qRet_eq, ↓qRetN_eq, ↓qIfS_eq, ↓qNever_eq, ↓qSet_eq, ↓qOwn_eq, ↓qFreeze_eq, ↓qApp_eq, ↓qPar_eq, ↓qUnp_eq, ↓qUnpL_eq, ↓qFldS_eq, ↓qForL_eq, ↓qForT_eq, ↓qForR1_eq, ↓qForR2_eq, ↓qCall_eq, ↓qMake_eq, ↓qMeth_eq, ↓qProp_eq, ↓qCB_eq, ↓cAbs_eq, ↓cInt_eq, ↓cGcd_eq, ↓cLen_eq, ↓cLenS_eq, ↓qBits_eq, ↓qIsi_eq, ↓qBin_eq, ↓qUna_eq, ↓cAbsO_eq, ↓qEqO_eq, ↓qRaise_eq, ↓qTry_eq, ↓qXi_eq, ↓qLenO_eq, ↓qForR3_eq, ↓qIx_l, ↓qIx_t, ↓qFld_eq, ↓qXf_eq, ↓qSetIx_eq, ↓qIxO_eq, ↓qEqD_eq, ↓tryD_nx, ↓tryD_rt, ↓tryD_bk, ↓tryD_ct, ↓tryD_ex, ↓endsP_nx, ↓endsP_rt, ↓endsP_ex, ↓endsI_nx, ↓endsI_rt, ↓endsI_ex, ↓iAdd, ↓iSub, ↓iMul, ↓iDiv, ↓iMod, ↓iPow, ↓iLt, ↓iLe, ↓iGt, ↓iGe, atI_l0, atI_l1, atI_l2, atI_l3, atI_l4, atI_l5, atI_l6, atI_l7, atI_l8, atI_l9, atI_l10, atI_l11, atI_l12, lookup_hd, lookup_tl, putP_nil, putP_hd, putP_tl, List.lookup_nil, true_and, and_true, ↓reduceIte, if_true, if_false, exists_eq_left', exists_eq_left, Option.some.injEq, Sl.ins.injEq, Bool.false_xor, Bool.true_xor, beq_iff_eq, decide_eq_true_eq, Bool.not_true, Bool.not_false, Bool.false_eq_true, Nat.reduceLeDiff, Nat.reduceLT, Bool.not_eq_true', beq_eq_false_iff_ne, decide_eq_false_iff_not, reduceCtorEq, ne_eq, not_false_eq_true, not_true_eq_false, true_imp_iff, false_imp_iff, forall_const, beq_self_eq_true, Bool.and_self, isiInt, isiBool, isiStr, isiC, nfC, inL, startP, startI, setAll, List.map_cons, List.map_nil, List.length_cons, List.length_nil, List.cons_append, List.nil_append, List.append_nil, List.replicate, List.getElem?_cons_zero, List.getElem?_cons_succ, List.set_cons_zero, List.set_cons_succ, Nat.reduceSub, Nat.reduceAdd, List.getD_cons_zero, rat]
    exact h

theorem ok_Ratio_add (T : Txt K mg a) (S : Fs K a d) : FnOk P w K mg base (L2.CX P w) 5 a.f_Ratio_add d.d_Ratio_add ["self", "other"] (spP K (P_Ratio_add a)) := by
  refine fa_q (k := 4) S.F_Ratio_add sc_Ratio_add (len_Ratio_add a) (fun cdv A outer s H E hr =>
    (jss_cons (js_if (jt_not (jt_val (je_isiC (kit_c (os := []) T.is_Ratio T.kc_Ratio (fun C h => nomatch h)) T.b_isinstance (je_var 1) T.mg_Ratio))) (jss_one js_never) jss_nil)
      (jss_one (js_ret (je_make T.mk_Ratio (ok_Ratio_init T S) (hr.mono (by decide)) T.mg_Ratio S.B_Ratio_init .nil (fun _ => .nil) (tkOf (takes_of rfl rfl rfl rfl)) (ja_cons (je_add (je_mul (je_fld (je_var 0) T.cl_Ratio T.na_Ratio_top) (je_fld (je_var 1) T.cl_Ratio T.na_Ratio_bottom)) (je_mul (je_fld (je_var 1) T.cl_Ratio T.na_Ratio_top) (je_fld (je_var 0) T.cl_Ratio T.na_Ratio_bottom))) (ja_cons (je_mul (je_fld (je_var 0) T.cl_Ratio T.na_Ratio_bottom) (je_fld (je_var 1) T.cl_Ratio T.na_Ratio_bottom)) ja_nil))))))) ?pure
  case pure =>
    rintro xs y Q ⟨t, b, u, c, rfl, ⟨h1, h2, h3, h4⟩, ⟨hb, hc⟩, h⟩
    simp (disch := decide) only [↓qVar_eq, ↓qC_eq, ↓qOp_eq, ↓qI_eq, ↓qI0_eq, ↓qEq_eq, ↓qIsN_eq, ↓qUn_eq, ↓qNeg_eq, ↓qB_eq, ↓qNotT_eq, ↓qAndT_eq, ↓qOrT_eq, ↓qAndV_eq, ↓qOrV_eq, ↓qNotV_eq, ↓qIf_eq, ↓qNil_eq, ↓qCons_eq, ↓qTup_eq, ↓qLst_eq, ↓qPart_eq, ↓qNoPart_eq, ↓qSl_eq, ↓qNext_eq, ↓qSeq_eq, ↓qBreak_eq, ↓qCont_eq, ↓qDrop_eq, ↓qRet_eq, ↓qRetN_eq, ↓qIfS_eq, ↓qNever_eq, ↓qSet_eq, ↓qOwn_eq, ↓qFreeze_eq, ↓qApp_eq, ↓qPar_eq, ↓qUnp_eq, ↓qUnpL_eq, ↓qFldS_eq, ↓qForL_eq, ↓qForT_eq, ↓qForR1_eq, ↓qForR2_eq, ↓qCall_eq, ↓qMake_eq, ↓qMeth_eq, ↓qProp_eq, ↓qCB_eq, ↓cAbs_eq, ↓cInt_eq, ↓cGcd_eq, ↓cLen_eq, ↓cLenS_eq, ↓qBits_eq, ↓qIsi_eq, ↓qBin_eq, ↓qUna_eq, ↓cAbsO_eq, ↓qEqO_eq, ↓qRaise_eq, ↓qTry_eq, ↓qXi_eq, ↓qLenO_eq, ↓qForR3_eq, ↓qIx_l, ↓qIx_t, ↓qFld_eq, ↓qXf_eq, ↓qSetIx_eq, ↓qIxO_eq, ↓qEqD_eq, ↓tryD_nx, ↓tryD_rt, ↓tryD_bk, ↓tryD_ct, ↓tryD_ex, ↓endsP_nx, ↓endsP_rt, ↓endsP_ex, ↓endsI_nx, ↓endsI_rt, ↓endsI_ex, ↓iAdd, ↓iSub, ↓iMul, ↓iDiv, ↓iMod, ↓iPow, ↓iLt, ↓iLe, ↓iGt, ↓iGe, atI_l0, atI_l1, atI_l2, atI_l3, atI_l4, atI_l5, atI_l6, atI_l7, atI_l8, atI_l9, atI_l10, atI_l11, atI_l12, lookup_hd, lookup_tl, putP_nil, putP_hd, putP_tl, List.lookup_nil, true_and, and_true, ↓reduceIte, if_true, if_false, exists_eq_left', exists_eq_left, Option.some.injEq, Sl.ins.injEq, Bool.false_xor, Bool.true_xor, beq_iff_eq, decide_eq_true_eq, Bool.not_true, Bool.not_false, Bool.false_eq_true, Nat.reduceLeDiff, Nat.reduceLT, Bool.not_eq_true', beq_eq_false_iff_ne, decide_eq_false_iff_not, reduceCtorEq, ne_eq, not_false_eq_true, not_true_eq_false, true_imp_iff, false_imp_iff, forall_const, beq_self_eq_true, Bool.and_self, isiInt, isiBool, isiStr, isiC, nfC, inL, startP, startI, setAll, List.map_cons, List.map_nil, List.length_cons, List.length_nil, List.cons_append, List.nil_append, List.append_nil, List.replicate, List.getElem?_cons_zero, List.getElem?_cons_succ, List.set_cons_zero, List.set_cons_succ, Nat.reduceSub, Nat.reduceAdd, List.getD_cons_zero, rat]
    refine ⟨mulW h1 h4 (by decide), mulW h3 h2 (by decide), mulW h2 h4 (by decide), _, _, rfl, fun z => absurd z (Int.mul_ne_zero hb hc), fun _ => ⟨(h2.mul h4).mono (by decide), h⟩⟩

theorem ok_Ratio_sub (T : Txt K mg a) (S : Fs K a d) : FnOk P w K mg base (L2.CX P w) 5 a.f_Ratio_sub d.d_Ratio_sub ["self", "other"] (spP K (P_Ratio_sub a)) := by
  refine fa_q (k := 4) S.F_Ratio_sub sc_Ratio_sub (len_Ratio_sub a) (fun cdv A outer s H E hr =>
    (jss_cons (js_if (jt_not (jt_val (je_isiC (kit_c (os := []) T.is_Ratio T.kc_Ratio (fun C h => nomatch h)) T.b_isinstance (je_var 1) T.mg_Ratio))) (jss_one js_never) jss_nil)
      (jss_one (js_ret (je_make T.mk_Ratio (ok_Ratio_init T S) (hr.mono (by decide)) T.mg_Ratio S.B_Ratio_init .nil (fun _ => .nil) (tkOf (takes_of rfl rfl rfl rfl)) (ja_cons (je_sub (je_mul (je_fld (je_var 0) T.cl_Ratio T.na_Ratio_top) (je_fld (je_var 1) T.cl_Ratio T.na_Ratio_bottom)) (je_mul (je_fld (je_var 1) T.cl_Ratio T.na_Ratio_top) (je_fld (je_var 0) T.cl_Ratio T.na_Ratio_bottom))) (ja_cons (je_mul (je_fld (je_var 0) T.cl_Ratio T.na_Ratio_bottom) (je_fld (je_var 1) T.cl_Ratio T.na_Ratio_bottom)) ja_nil))))))) ?pure
  case pure =>
    rintro xs y Q ⟨t, b, u, c, rfl, ⟨h1, h2, h3, h4⟩, ⟨hb, hc⟩, h⟩
    simp (disch := decide) only [↓qVar_eq, ↓qC_eq, ↓qOp_eq, ↓qI_eq, ↓qI0_eq, ↓qEq_eq, ↓qIsN_eq, ↓qUn_eq, ↓qNeg_eq, ↓qB_eq, ↓qNotT_eq, ↓qAndT_eq, ↓qOrT_eq, ↓qAndV_eq, ↓qOrV_eq, ↓qNotV_eq, ↓qIf_eq, ↓qNil_eq, ↓qCons_eq, ↓qTup_eq, ↓qLst_eq, ↓qPart_eq, ↓qNoPart_eq, ↓qSl_eq, ↓qNext_eq, ↓qSeq_eq, ↓qBreak_eq, ↓qCont_eq, ↓qDrop_eq, ↓qRet_eq, ↓qRetN_eq, ↓qIfS_eq, ↓qNever_eq, ↓qSet_eq, ↓qOwn_eq, ↓qFreeze_eq, ↓qApp_eq, ↓qPar_eq, ↓qUnp_eq, ↓qUnpL_eq, ↓qFldS_eq, ↓qForL_eq, ↓qForT_eq, ↓qForR1_eq, ↓qForR2_eq, ↓qCall_eq, ↓qMake_eq, ↓qMeth_eq, ↓qProp_eq, ↓qCB_eq, ↓cAbs_eq, ↓cInt_eq, ↓cGcd_eq, ↓cLen_eq, ↓cLenS_eq, ↓qBits_eq, ↓qIsi_eq, ↓qBin_eq, ↓qUna_eq, ↓cAbsO_eq, ↓qEqO_eq, ↓qRaise_eq, ↓qTry_eq, ↓qXi_eq, ↓qLenO_eq, ↓qForR3_eq, ↓qIx_l, ↓qIx_t, ↓qFld_eq, ↓qXf_eq, ↓qSetIx_eq, ↓qIxO_eq, ↓qEqD_eq, ↓tryD_nx, ↓tryD_rt, ↓tryD_bk, ↓tryD_ct, ↓tryD_ex, ↓endsP_nx, ↓endsP_rt, ↓endsP_ex, ↓endsI_nx, ↓endsI_rt, ↓endsI_ex, ↓iAdd, ↓iSub, ↓iMul, ↓iDiv, ↓iMod, ↓iPow, ↓iLt, ↓iLe, ↓iGt, ↓iGe, atI_l0, atI_l1, atI_l2, atI_l3, atI_l4, atI_l5, atI_l6, atI_l7, atI_l8, atI_l9, atI_l10, atI_l11, atI_l12, lookup_hd, lookup_tl, putP_nil, putP_hd, putP_tl, List.lookup_nil, true_and, and_true, ↓reduceIte, if_true, if_false, exists_eq_left', exists_eq_left, Option.some.injEq, Sl.ins.injEq, Bool.false_xor, Bool.true_xor, beq_iff_eq, decide_eq_true_eq, Bool.not_true, Bool.not_false, Bool.false_eq_true, Nat.reduceLeDiff, Nat.reduceLT, Bool.not_eq_true', beq_eq_false_iff_ne, decide_eq_false_iff_not, reduceCtorEq, ne_eq, not_false_eq_true, not_true_eq_false, true_imp_iff, false_imp_iff, forall_const, beq_self_eq_true, Bool.and_self, isiInt, isiBool, isiStr, isiC, nfC, inL, startP, startI, setAll, List.map_cons, List.map_nil, List.length_cons, List.length_nil, List.cons_append, List.nil_append, List.append_nil, List.replicate, List.getElem?_cons_zero, List.getElem?_cons_succ, List.set_cons_zero, List.set_cons_succ, Nat.reduceSub, Nat.reduceAdd, List.getD_cons_zero, rat]
    refine ⟨mulW h1 h4 (by decide), mulW h3 h2 (by decide), mulW h2 h4 (by decide), _, _, rfl, fun z => absurd z (Int.mul_ne_zero hb hc), fun _ => ⟨(h2.mul h4).mono (by decide), h⟩⟩

theorem ok_Ratio_mul (T : Txt K mg a) (S : Fs K a d) : FnOk P w K mg base (L2.CX P w) 5 a.f_Ratio_mul d.d_Ratio_mul ["self", "other"] (spP K (P_Ratio_mul a)) := by
  refine fa_q (k := 4) S.F_Ratio_mul sc_Ratio_mul (len_Ratio_mul a) (fun cdv A outer s H E hr =>
    (jss_cons (js_if (jt_not (jt_val (je_isiC (kit_c (os := []) T.is_Ratio T.kc_Ratio (fun C h => nomatch h)) T.b_isinstance (je_var 1) T.mg_Ratio))) (jss_one js_never) jss_nil)
      (jss_one (js_ret (je_make T.mk_Ratio (ok_Ratio_init T S) (hr.mono (by decide)) T.mg_Ratio S.B_Ratio_init .nil (fun _ => .nil) (tkOf (takes_of rfl rfl rfl rfl)) (ja_cons (je_mul (je_fld (je_var 0) T.cl_Ratio T.na_Ratio_top) (je_fld (je_var 1) T.cl_Ratio T.na_Ratio_top)) (ja_cons (je_mul (je_fld (je_var 0) T.cl_Ratio T.na_Ratio_bottom) (je_fld (je_var 1) T.cl_Ratio T.na_Ratio_bottom)) ja_nil))))))) ?pure
  case pure =>
    rintro xs y Q ⟨t, b, u, c, rfl, ⟨h1, h2, h3, h4⟩, ⟨hb, hc⟩, h⟩
    simp (disch := decide) only [↓qVar_eq, ↓qC_eq, ↓qOp_eq, ↓qI_eq, ↓qI0_eq, ↓qEq_eq, ↓qIsN_eq, ↓qUn_eq, ↓qNeg_eq, ↓qB_eq, ↓qNotT_eq, ↓qAndT_eq, ↓qOrT_eq, ↓qAndV_eq, ↓qOrV_eq, ↓qNotV_eq, ↓qIf_eq, ↓qNil_eq, ↓qCons_eq, ↓qTup_eq, ↓qLst_eq, ↓qPart_eq, ↓qNoPart_eq, ↓qSl_eq, ↓qNext_eq, ↓qSeq_eq, ↓qBreak_eq, ↓qCont_eq, ↓qDrop_eq, ↓qRet_eq, ↓qRetN_eq, ↓qIfS_eq, ↓qNever_eq, ↓qSet_eq, ↓qOwn_eq, ↓qFreeze_eq, ↓qApp_eq, ↓qPar_eq, ↓qUnp_eq, ↓qUnpL_eq, ↓qFldS_eq, ↓qForL_eq, ↓qForT_eq, ↓qForR1_eq, ↓qForR2_eq, ↓qCall_eq, ↓qMake_eq, ↓qMeth_eq, ↓qProp_eq, ↓qCB_eq, ↓cAbs_eq, ↓cInt_eq, ↓cGcd_eq, ↓cLen_eq, ↓cLenS_eq, ↓qBits_eq, ↓qIsi_eq, ↓qBin_eq, ↓qUna_eq, ↓cAbsO_eq, ↓qEqO_eq, ↓qRaise_eq, ↓qTry_eq, ↓qXi_eq, ↓qLenO_eq, ↓qForR3_eq, ↓qIx_l, ↓qIx_t, ↓qFld_eq, ↓qXf_eq, ↓qSetIx_eq, ↓qIxO_eq, ↓qEqD_eq, ↓tryD_nx, ↓tryD_rt, ↓tryD_bk, ↓tryD_ct, ↓tryD_ex, ↓endsP_nx, ↓endsP_rt, ↓endsP_ex, ↓endsI_nx, ↓endsI_rt, ↓endsI_ex, ↓iAdd, ↓iSub, ↓iMul, ↓iDiv, ↓iMod, ↓iPow, ↓iLt, ↓iLe, ↓iGt, ↓iGe, atI_l0, atI_l1, atI_l2, atI_l3, atI_l4, atI_l5, atI_l6, atI_l7, atI_l8, atI_l9, atI_l10, atI_l11, atI_l12, lookup_hd, lookup_tl, putP_nil, putP_hd, putP_tl, List.lookup_nil, true_and, and_true, ↓reduceIte, if_true, if_false, exists_eq_left', exists_eq_left, Option.some.injEq, Sl.ins.injEq, Bool.false_xor, Bool.true_xor, beq_iff_eq, decide_eq_true_eq, Bool.not_true, Bool.not_false, Bool.false_eq_true, Nat.reduceLeDiff, Nat.reduceLT, Bool.not_eq_true', beq_eq_false_iff_ne, decide_eq_false_iff_not, reduceCtorEq, ne_eq, not_false_eq_true, not_true_eq_false, true_imp_iff, false_imp_iff, forall_const, beq_self_eq_true, Bool.and_self, isiInt, isiBool, isiStr, isiC, nfC, inL, startP, startI, setAll, List.map_cons, List.map_nil, List.length_cons, List.length_nil, List.cons_append, List.nil_append, List.append_nil, List.replicate, List.getElem?_cons_zero, List.getElem?_cons_succ, List.set_cons_zero, List.set_cons_succ, Nat.reduceSub, Nat.reduceAdd, List.getD_cons_zero, rat]
    exact ⟨mulW h1 h3 (by decide), mulW h2 h4 (by decide), _, _, rfl, fun z => absurd z (Int.mul_ne_zero hb hc), fun _ => ⟨(h2.mul h4).mono (by decide), h⟩⟩

theorem ok_Ratio_neg (T : Txt K mg a) (S : Fs K a d) : FnOk P w K mg base (L2.CX P w) 5 a.f_Ratio_neg d.d_Ratio_neg ["self"] (spP K (P_Ratio_neg a)) := by
  refine fa_q (k := 4) S.F_Ratio_neg sc_Ratio_neg (len_Ratio_neg a) (fun cdv A outer s H E hr =>
    (jss_one (js_ret (je_make T.mk_Ratio (ok_Ratio_init T S) (hr.mono (by decide)) T.mg_Ratio S.B_Ratio_init .nil (fun _ => .nil) (tkOf (takes_of rfl rfl rfl rfl)) (ja_cons (je_neg (je_fld (je_var 0) T.cl_Ratio T.na_Ratio_top)) (ja_cons (je_fld (je_var 0) T.cl_Ratio T.na_Ratio_bottom) ja_nil)))))) ?pure
  case pure =>
    rintro xs y Q ⟨t, b, rfl, h1, h2, hb, h⟩
    simp (disch := decide) only [↓qVar_eq, ↓qC_eq, ↓qOp_eq, ↓qI_eq, ↓qI0_eq, ↓qEq_eq, ↓qIsN_eq, ↓qUn_eq, ↓qNeg_eq, ↓qB_eq, ↓qNotT_eq, ↓qAndT_eq, ↓qOrT_eq, ↓qAndV_eq, ↓qOrV_eq, ↓qNotV_eq, ↓qIf_eq, ↓qNil_eq, ↓qCons_eq, ↓qTup_eq, ↓qLst_eq, ↓qPart_eq, ↓qNoPart_eq, ↓qSl_eq, ↓qNext_eq, ↓qSeq_eq, ↓qBreak_eq, ↓qCont_eq, ↓qDrop_eq, ↓qRet_eq, ↓qRetN_eq, ↓qIfS_eq, ↓qNever_eq, ↓qSet_eq, ↓qOwn_eq, ↓qFreeze_eq, ↓qApp_eq, ↓qPar_eq, ↓qUnp_eq, ↓qUnpL_eq, ↓qFldS_eq, ↓qForL_eq, ↓qForT_eq, ↓qForR1_eq, ↓qForR2_eq, ↓qCall_eq, ↓qMake_eq, ↓qMeth_eq, ↓qProp_eq, ↓qCB_eq, ↓cAbs_eq, ↓cInt_eq, ↓cGcd_eq, ↓cLen_eq, ↓cLenS_eq, ↓qBits_eq, ↓qIsi_eq, ↓qBin_eq, ↓qUna_eq, ↓cAbsO_eq, ↓qEqO_eq, ↓qRaise_eq, ↓qTry_eq, ↓qXi_eq, ↓qLenO_eq, ↓qForR3_eq, ↓qIx_l, ↓qIx_t, ↓qFld_eq, ↓qXf_eq, ↓qSetIx_eq, ↓qIxO_eq, ↓qEqD_eq, ↓tryD_nx, ↓tryD_rt, ↓tryD_bk, ↓tryD_ct, ↓tryD_ex, ↓endsP_nx, ↓endsP_rt, ↓endsP_ex, ↓endsI_nx, ↓endsI_rt, ↓endsI_ex, ↓iAdd, ↓iSub, ↓iMul, ↓iDiv, ↓iMod, ↓iPow, ↓iLt, ↓iLe, ↓iGt, ↓iGe, atI_l0, atI_l1, atI_l2, atI_l3, atI_l4, atI_l5, atI_l6, atI_l7, atI_l8, atI_l9, atI_l10, atI_l11, atI_l12, lookup_hd, lookup_tl, putP_nil, putP_hd, putP_tl, List.lookup_nil, true_and, and_true, ↓reduceIte, if_true, if_false, exists_eq_left', exists_eq_left, Option.some.injEq, Sl.ins.injEq, Bool.false_xor, Bool.true_xor, beq_iff_eq, decide_eq_true_eq, Bool.not_true, Bool.not_false, Bool.false_eq_true, Nat.reduceLeDiff, Nat.reduceLT, Bool.not_eq_true', beq_eq_false_iff_ne, decide_eq_false_iff_not, reduceCtorEq, ne_eq, not_false_eq_true, not_true_eq_false, true_imp_iff, false_imp_iff, forall_const, beq_self_eq_true, Bool.and_self, isiInt, isiBool, isiStr, isiC, nfC, inL, startP, startI, setAll, List.map_cons, List.map_nil, List.length_cons, List.length_nil, List.cons_append, List.nil_append, List.append_nil, List.replicate, List.getElem?_cons_zero, List.getElem?_cons_succ, List.set_cons_zero, List.set_cons_succ, Nat.reduceSub, Nat.reduceAdd, List.getD_cons_zero, rat]
    exact ⟨_, _, rfl, fun z => absurd z hb, fun _ => ⟨h2.mono (by decide), h⟩⟩

theorem ok_Ratio_abs (T : Txt K mg a) (S : Fs K a d) : FnOk P w K mg base (L2.CX P w) 5 a.f_Ratio_abs d.d_Ratio_abs ["self"] (spP K (P_Ratio_abs a)) := by
  refine fa_q (k := 4) S.F_Ratio_abs sc_Ratio_abs (len_Ratio_abs a) (fun cdv A outer s H E hr =>
    (jss_one (js_ret (je_make T.mk_Ratio (ok_Ratio_init T S) (hr.mono (by decide)) T.mg_Ratio S.B_Ratio_init .nil (fun _ => .nil) (tkOf (takes_of rfl rfl rfl rfl)) (ja_cons (je_abs T.b_abs (ja_cons (je_fld (je_var 0) T.cl_Ratio T.na_Ratio_top) ja_nil)) (ja_cons (je_fld (je_var 0) T.cl_Ratio T.na_Ratio_bottom) ja_nil)))))) ?pure
  case pure =>
    rintro xs y Q ⟨t, b, rfl, h1, h2, hb, h⟩
    simp (disch := decide) only [↓qVar_eq, ↓qC_eq, ↓qOp_eq, ↓qI_eq, ↓qI0_eq, ↓qEq_eq, ↓qIsN_eq, ↓qUn_eq, ↓qNeg_eq, ↓qB_eq, ↓qNotT_eq, ↓qAndT_eq, ↓qOrT_eq, ↓qAndV_eq, ↓qOrV_eq, ↓qNotV_eq, ↓qIf_eq, ↓qNil_eq, ↓qCons_eq, ↓qTup_eq, ↓qLst_eq, ↓qPart_eq, ↓qNoPart_eq, ↓qSl_eq, ↓qNext_eq, ↓qSeq_eq, ↓qBreak_eq, ↓qCont_eq, ↓qDrop_eq, ↓qRet_eq, ↓qRetN_eq, ↓qIfS_eq, ↓qNever_eq, ↓qSet_eq, ↓qOwn_eq, ↓qFreeze_eq, ↓qApp_eq, ↓qPar_eq, ↓qUnp_eq, ↓qUnpL_eq, ↓qFldS_eq, ↓qForL_eq, ↓qForT_eq, ↓qForR1_eq, ↓qForR2_eq, ↓qCall_eq, ↓qMake_eq, ↓qMeth_eq, ↓qProp_eq, ↓qCB_eq, ↓cAbs_eq, ↓cInt_eq, ↓cGcd_eq, ↓cLen_eq, ↓cLenS_eq, ↓qBits_eq, ↓qIsi_eq, ↓qBin_eq, ↓qUna_eq, ↓cAbsO_eq, ↓qEqO_eq, ↓qRaise_eq, ↓qTry_eq, ↓qXi_eq, ↓qLenO_eq, ↓qForR3_eq, ↓qIx_l, ↓qIx_t, ↓qFld_eq, ↓qXf_eq, ↓qSetIx_eq, ↓qIxO_eq, ↓qEqD_eq, ↓tryD_nx, ↓tryD_rt, ↓tryD_bk, ↓tryD_ct, ↓tryD_ex, ↓endsP_nx, ↓endsP_rt, ↓endsP_ex, ↓endsI_nx, ↓endsI_rt, ↓endsI_ex, ↓iAdd, ↓iSub, ↓iMul, ↓iDiv, ↓iMod, ↓iPow, ↓iLt, ↓iLe, ↓iGt, ↓iGe, atI_l0, atI_l1, atI_l2, atI_l3, atI_l4, atI_l5, atI_l6, atI_l7, atI_l8, atI_l9, atI_l10, atI_l11, atI_l12, lookup_hd, lookup_tl, putP_nil, putP_hd, putP_tl, List.lookup_nil, true_and, and_true, ↓reduceIte, if_true, if_false, exists_eq_left', exists_eq_left, Option.some.injEq, Sl.ins.injEq, Bool.false_xor, Bool.true_xor, beq_iff_eq, decide_eq_true_eq, Bool.not_true, Bool.not_false, Bool.false_eq_true, Nat.reduceLeDiff, Nat.reduceLT, Bool.not_eq_true', beq_eq_false_iff_ne, decide_eq_false_iff_not, reduceCtorEq, ne_eq, not_false_eq_true, not_true_eq_false, true_imp_iff, false_imp_iff, forall_const, beq_self_eq_true, Bool.and_self, isiInt, isiBool, isiStr, isiC, nfC, inL, startP, startI, setAll, List.map_cons, List.map_nil, List.length_cons, List.length_nil, List.cons_append, List.nil_append, List.append_nil, List.replicate, List.getElem?_cons_zero, List.getElem?_cons_succ, List.set_cons_zero, List.set_cons_succ, Nat.reduceSub, Nat.reduceAdd, List.getD_cons_zero, rat]
    exact ⟨_, _, rfl, fun z => absurd z hb, fun _ => ⟨h2.mono (by decide), h⟩⟩

theorem ok_Ratio_eq (T : Txt K mg a) (S : Fs K a d) : FnOk P w K mg base (L2.CX P w) 1 a.f_Ratio_eq d.d_Ratio_eq ["self", "other"] (spP K (P_Ratio_eq a)) := by
  refine fa_q (k := 0) S.F_Ratio_eq sc_Ratio_eq (len_Ratio_eq a) (fun cdv A outer s H E hr =>
    (jss_one (js_ret (je_and (je_isiC (kit_c (os := []) T.is_Ratio T.kc_Ratio (fun C h => nomatch h)) T.b_isinstance (je_var 1) T.mg_Ratio) (je_and (je_eq (je_fld (je_var 0) T.cl_Ratio T.na_Ratio_top) (je_fld (je_var 1) T.cl_Ratio T.na_Ratio_top)) (je_one (je_eq (je_fld (je_var 0) T.cl_Ratio T.na_Ratio_bottom) (je_fld (je_var 1) T.cl_Ratio T.na_Ratio_bottom)))))))) ?pure
  case pure =>
    rintro xs y Q ⟨t, b, z, rfl, h⟩
    rcases h with ⟨u, c, rfl, h⟩ | ⟨hz, h⟩
    · simp (disch := decide) only [↓qVar_eq, ↓qC_eq, ↓qOp_eq, ↓qI_eq, ↓qI0_eq, ↓qEq_eq, ↓qIsN_eq, ↓qUn_eq, ↓qNeg_eq, ↓qB_eq, ↓qNotT_eq, ↓qAndT_eq, ↓qOrT_eq, ↓qAndV_eq, ↓qOrV_eq, ↓qNotV_eq, ↓qIf_eq, ↓qNil_eq, ↓qCons_eq, ↓qTup_eq, ↓qLst_eq, ↓qPart_eq, ↓qNoPart_eq, ↓qSl_eq, ↓qNext_eq, ↓qSeq_eq, ↓qBreak_eq, ↓qCont_eq, ↓qDrop_eq, ↓qRet_eq, ↓qRetN_eq, ↓qIfS_eq, ↓qNever_eq, ↓qSet_eq, ↓qOwn_eq, ↓qFreeze_eq, ↓qApp_eq, ↓qPar_eq, ↓qUnp_eq, ↓qUnpL_eq, ↓qFldS_eq, ↓qForL_eq, ↓qForT_eq, ↓qForR1_eq, ↓qForR2_eq, ↓qCall_eq, ↓qMake_eq, ↓qMeth_eq, ↓qProp_eq, ↓qCB_eq, ↓cAbs_eq, ↓cInt_eq, ↓cGcd_eq, ↓cLen_eq, ↓cLenS_eq, ↓qBits_eq, ↓qIsi_eq, ↓qBin_eq, ↓qUna_eq, ↓cAbsO_eq, ↓qEqO_eq, ↓qRaise_eq, ↓qTry_eq, ↓qXi_eq, ↓qLenO_eq, ↓qForR3_eq, ↓qIx_l, ↓qIx_t, ↓qFld_eq, ↓qXf_eq, ↓qSetIx_eq, ↓qIxO_eq, ↓qEqD_eq, ↓tryD_nx, ↓tryD_rt, ↓tryD_bk, ↓tryD_ct, ↓tryD_ex, ↓endsP_nx, ↓endsP_rt, ↓endsP_ex, ↓endsI_nx, ↓endsI_rt, ↓endsI_ex, ↓iAdd, ↓iSub, ↓iMul, ↓iDiv, ↓iMod, ↓iPow, ↓iLt, ↓iLe, ↓iGt, ↓iGe, atI_l0, atI_l1, atI_l2, atI_l3, atI_l4, atI_l5, atI_l6, atI_l7, atI_l8, atI_l9, atI_l10, atI_l11, atI_l12, lookup_hd, lookup_tl, putP_nil, putP_hd, putP_tl, List.lookup_nil, true_and, and_true, ↓reduceIte, if_true, if_false, exists_eq_left', exists_eq_left, Option.some.injEq, Sl.ins.injEq, Bool.false_xor, Bool.true_xor, beq_iff_eq, decide_eq_true_eq, Bool.not_true, Bool.not_false, Bool.false_eq_true, Nat.reduceLeDiff, Nat.reduceLT, Bool.not_eq_true', beq_eq_false_iff_ne, decide_eq_false_iff_not, reduceCtorEq, ne_eq, not_false_eq_true, not_true_eq_false, true_imp_iff, false_imp_iff, forall_const, beq_self_eq_true, Bool.and_self, isiInt, isiBool, isiStr, isiC, nfC, inL, startP, startI, setAll, List.map_cons, List.map_nil, List.length_cons, List.length_nil, List.cons_append, List.nil_append, List.append_nil, List.replicate, List.getElem?_cons_zero, List.getElem?_cons_succ, List.set_cons_zero, List.set_cons_succ, Nat.reduceSub, Nat.reduceAdd, List.getD_cons_zero, rat]
      split
      · rename_i e
        subst e
        simpa using h
      · rename_i e
        have : (t == u) = false := beq_eq_false_iff_ne.mpr e
        rw [this] at h
        exact h
    · show (match isiC a.C_Ratio [] z with
        | some b => _
        | none => False : Prop)
      rw [hz]
      exact h

theorem ok_Ratio_over (T : Txt K mg a) (S : Fs K a d) : FnOk P w K mg base (L2.CX P w) 5 a.f_Ratio_over d.d_Ratio_over ["self", "other"] (spP K (P_Ratio_over a)) := by
  refine fa_q (k := 4) S.F_Ratio_over sc_Ratio_over (len_Ratio_over a) (fun cdv A outer s H E hr =>
    (jss_one (js_ret (je_make T.mk_Ratio (ok_Ratio_init T S) (hr.mono (by decide)) T.mg_Ratio S.B_Ratio_init .nil (fun _ => .nil) (tkOf (takes_of rfl rfl rfl rfl)) (ja_cons (je_mul (je_fld (je_var 0) T.cl_Ratio T.na_Ratio_top) (je_fld (je_var 1) T.cl_Ratio T.na_Ratio_bottom)) (ja_cons (je_mul (je_fld (je_var 0) T.cl_Ratio T.na_Ratio_bottom) (je_fld (je_var 1) T.cl_Ratio T.na_Ratio_top)) ja_nil)))))) ?pure
  case pure =>
    rintro xs y Q ⟨t, b, u, c, rfl, ⟨h1, h2, h3, h4⟩, hb, h, h'⟩
    simp (disch := decide) only [↓qVar_eq, ↓qC_eq, ↓qOp_eq, ↓qI_eq, ↓qI0_eq, ↓qEq_eq, ↓qIsN_eq, ↓qUn_eq, ↓qNeg_eq, ↓qB_eq, ↓qNotT_eq, ↓qAndT_eq, ↓qOrT_eq, ↓qAndV_eq, ↓qOrV_eq, ↓qNotV_eq, ↓qIf_eq, ↓qNil_eq, ↓qCons_eq, ↓qTup_eq, ↓qLst_eq, ↓qPart_eq, ↓qNoPart_eq, ↓qSl_eq, ↓qNext_eq, ↓qSeq_eq, ↓qBreak_eq, ↓qCont_eq, ↓qDrop_eq, ↓qRet_eq, ↓qRetN_eq, ↓qIfS_eq, ↓qNever_eq, ↓qSet_eq, ↓qOwn_eq, ↓qFreeze_eq, ↓qApp_eq, ↓qPar_eq, ↓qUnp_eq, ↓qUnpL_eq, ↓qFldS_eq, ↓qForL_eq, ↓qForT_eq, ↓qForR1_eq, ↓qForR2_eq, ↓qCall_eq, ↓qMake_eq, ↓qMeth_eq, ↓qProp_eq, ↓qCB_eq, ↓cAbs_eq, ↓cInt_eq, ↓cGcd_eq, ↓cLen_eq, ↓cLenS_eq, ↓qBits_eq, ↓qIsi_eq, ↓qBin_eq, ↓qUna_eq, ↓cAbsO_eq, ↓qEqO_eq, ↓qRaise_eq, ↓qTry_eq, ↓qXi_eq, ↓qLenO_eq, ↓qForR3_eq, ↓qIx_l, ↓qIx_t, ↓qFld_eq, ↓qXf_eq, ↓qSetIx_eq, ↓qIxO_eq, ↓qEqD_eq, ↓tryD_nx, ↓tryD_rt, ↓tryD_bk, ↓tryD_ct, ↓tryD_ex, ↓endsP_nx, ↓endsP_rt, ↓endsP_ex, ↓endsI_nx, ↓endsI_rt, ↓endsI_ex, ↓iAdd, ↓iSub, ↓iMul, ↓iDiv, ↓iMod, ↓iPow, ↓iLt, ↓iLe, ↓iGt, ↓iGe, atI_l0, atI_l1, atI_l2, atI_l3, atI_l4, atI_l5, atI_l6, atI_l7, atI_l8, atI_l9, atI_l10, atI_l11, atI_l12, lookup_hd, lookup_tl, putP_nil, putP_hd, putP_tl, List.lookup_nil, true_and, and_true, ↓reduceIte, if_true, if_false, exists_eq_left', exists_eq_left, Option.some.injEq, Sl.ins.injEq, Bool.false_xor, Bool.true_xor, beq_iff_eq, decide_eq_true_eq, Bool.not_true, Bool.not_false, Bool.false_eq_true, Nat.reduceLeDiff, Nat.reduceLT, Bool.not_eq_true', beq_eq_false_iff_ne, decide_eq_false_iff_not, reduceCtorEq, ne_eq, not_false_eq_true, not_true_eq_false, true_imp_iff, false_imp_iff, forall_const, beq_self_eq_true, Bool.and_self, isiInt, isiBool, isiStr, isiC, nfC, inL, startP, startI, setAll, List.map_cons, List.map_nil, List.length_cons, List.length_nil, List.cons_append, List.nil_append, List.append_nil, List.replicate, List.getElem?_cons_zero, List.getElem?_cons_succ, List.set_cons_zero, List.set_cons_succ, Nat.reduceSub, Nat.reduceAdd, List.getD_cons_zero, rat]
    exact ⟨mulW h1 h4 (by decide), mulW h2 h3 (by decide), _, _, rfl, fun z => h ((Int.mul_eq_zero.mp z).resolve_left hb), fun z => ⟨(h2.mul h3).mono (by decide), h' fun e => z (by rw [e, Int.mul_zero])⟩⟩

theorem ok_Ratio_below (T : Txt K mg a) (S : Fs K a d) : FnOk P w K mg base (L2.CX P w) 1 a.f_Ratio_below d.d_Ratio_below ["self", "other"] (spP K (P_Ratio_below a)) := by
  refine fa_q (k := 0) S.F_Ratio_below sc_Ratio_below (len_Ratio_below a) (fun cdv A outer s H E hr =>
    (jss_one (js_ret (je_lt (je_mul (je_fld (je_var 0) T.cl_Ratio T.na_Ratio_top) (je_fld (je_var 1) T.cl_Ratio T.na_Ratio_bottom)) (je_mul (je_fld (je_var 1) T.cl_Ratio T.na_Ratio_top) (je_fld (je_var 0) T.cl_Ratio T.na_Ratio_bottom)))))) ?pure
  case pure =>
    rintro xs y Q ⟨t, b, u, c, rfl, ⟨h1, h2, h3, h4⟩, ⟨hb, hc⟩, h⟩
    simp (disch := decide) only [↓qVar_eq, ↓qC_eq, ↓qOp_eq, ↓qI_eq, ↓qI0_eq, ↓qEq_eq, ↓qIsN_eq, ↓qUn_eq, ↓qNeg_eq, ↓qB_eq, ↓qNotT_eq, ↓qAndT_eq, ↓qOrT_eq, ↓qAndV_eq, ↓qOrV_eq, ↓qNotV_eq, ↓qIf_eq, ↓qNil_eq, ↓qCons_eq, ↓qTup_eq, ↓qLst_eq, ↓qPart_eq, ↓qNoPart_eq, ↓qSl_eq, ↓qNext_eq, ↓qSeq_eq, ↓qBreak_eq, ↓qCont_eq, ↓qDrop_eq, ↓qRet_eq, ↓qRetN_eq, ↓qIfS_eq, ↓qNever_eq, ↓qSet_eq, ↓qOwn_eq, ↓qFreeze_eq, ↓qApp_eq, ↓qPar_eq, ↓qUnp_eq, ↓qUnpL_eq, ↓qFldS_eq, ↓qForL_eq, ↓qForT_eq, ↓qForR1_eq, ↓qForR2_eq, ↓qCall_eq, ↓qMake_eq, ↓qMeth_eq, ↓qProp_eq, ↓qCB_eq, ↓cAbs_eq, ↓cInt_eq, ↓cGcd_eq, ↓cLen_eq, ↓cLenS_eq, ↓qBits_eq, ↓qIsi_eq, ↓qBin_eq, ↓qUna_eq, ↓cAbsO_eq, ↓qEqO_eq, ↓qRaise_eq, ↓qTry_eq, ↓qXi_eq, ↓qLenO_eq, ↓qForR3_eq, ↓qIx_l, ↓qIx_t, ↓qFld_eq, ↓qXf_eq, ↓qSetIx_eq, ↓qIxO_eq, ↓qEqD_eq, ↓tryD_nx, ↓tryD_rt, ↓tryD_bk, ↓tryD_ct, ↓tryD_ex, ↓endsP_nx, ↓endsP_rt, ↓endsP_ex, ↓endsI_nx, ↓endsI_rt, ↓endsI_ex, ↓iAdd, ↓iSub, ↓iMul, ↓iDiv, ↓iMod, ↓iPow, ↓iLt, ↓iLe, ↓iGt, ↓iGe, atI_l0, atI_l1, atI_l2, atI_l3, atI_l4, atI_l5, atI_l6, atI_l7, atI_l8, atI_l9, atI_l10, atI_l11, atI_l12, lookup_hd, lookup_tl, putP_nil, putP_hd, putP_tl, List.lookup_nil, true_and, and_true, ↓reduceIte, if_true, if_false, exists_eq_left', exists_eq_left, Option.some.injEq, Sl.ins.injEq, Bool.false_xor, Bool.true_xor, beq_iff_eq, decide_eq_true_eq, Bool.not_true, Bool.not_false, Bool.false_eq_true, Nat.reduceLeDiff, Nat.reduceLT, Bool.not_eq_true', beq_eq_false_iff_ne, decide_eq_false_iff_not, reduceCtorEq, ne_eq, not_false_eq_true, not_true_eq_false, true_imp_iff, false_imp_iff, forall_const, beq_self_eq_true, Bool.and_self, isiInt, isiBool, isiStr, isiC, nfC, inL, startP, startI, setAll, List.map_cons, List.map_nil, List.length_cons, List.length_nil, List.cons_append, List.nil_append, List.append_nil, List.replicate, List.getElem?_cons_zero, List.getElem?_cons_succ, List.set_cons_zero, List.set_cons_succ, Nat.reduceSub, Nat.reduceAdd, List.getD_cons_zero, rat]
    exact ⟨mulW h1 h4 (by decide), mulW h3 h2 (by decide), h⟩

theorem ok_law_cell (T : Txt K mg a) (S : Fs K a d) : FnOk P w K mg base (L2.CX P w) 1 a.f_law_cell d.d_law_cell ["script", "k"] (spP K (P_law_cell a)) := by
  refine fa_q (k := 0) S.F_law_cell sc_law_cell (len_law_cell a) (fun cdv A outer s H E hr =>
    (jss_cons (js_if (jt_lt (je_var 1) (je_len T.b_len (ja_cons (je_var 0) ja_nil))) (jss_one (js_ret (je_abs T.b_abs (ja_cons (je_ix (je_var 0) (je_var 1)) ja_nil)))) jss_nil)
      (jss_cons (js_set 2 sc_law_cell.nd je_int)
      (jss_cut (js_forL 3 (passes_of rfl) rfl sc_law_cell.nd (je_sl (je_var 0) jo_none (jo_some je_int))
        (jss_one (js_set 2 sc_law_cell.nd (je_mod (je_toint T.b_int (ja_cons (je_add (je_mul (je_var 2) je_int) (je_mod (je_toint T.b_int (ja_cons (je_abs T.b_abs (ja_cons (je_var 3) ja_nil)) ja_nil)) je_int)) ja_nil)) je_int))))
      (jss_one (js_ret (je_add (je_add (je_mul (je_var 2) je_int) (je_mul (je_var 1) je_int)) je_int))))))) ?pure
  case pure =>
    rintro xs y Q ⟨ns, k, rfl, hk, hn, h⟩
    simp (disch := decide) only [↓qVar_eq, ↓qC_eq, ↓qOp_eq, ↓qI_eq, ↓qI0_eq, ↓qEq_eq, ↓qIsN_eq, ↓qUn_eq, ↓qNeg_eq, ↓qB_eq, ↓qNotT_eq, ↓qAndT_eq, ↓qOrT_eq, ↓qAndV_eq, ↓qOrV_eq, ↓qNotV_eq, ↓qIf_eq, ↓qNil_eq, ↓qCons_eq, ↓qTup_eq, ↓qLst_eq, ↓qPart_eq, ↓qNoPart_eq, ↓qSl_eq, ↓qNext_eq, ↓qSeq_eq, ↓qBreak_eq, ↓qCont_eq, ↓qDrop_eq, ↓qRet_eq, ↓qRetN_eq, ↓qIfS_eq, ↓qNever_eq, ↓qSet_eq, ↓qOwn_eq, ↓qFreeze_eq, ↓qApp_eq, ↓qPar_eq, ↓qUnp_eq, ↓qUnpL_eq, ↓qFldS_eq, ↓qForL_eq, ↓qForT_eq, ↓qForR1_eq, ↓qForR2_eq, ↓qCall_eq, ↓qMake_eq, ↓qMeth_eq, ↓qProp_eq, ↓qCB_eq, ↓cAbs_eq, ↓cInt_eq, ↓cGcd_eq, ↓cLen_eq, ↓cLenS_eq, ↓qBits_eq, ↓qIsi_eq, ↓qBin_eq, ↓qUna_eq, ↓cAbsO_eq, ↓qEqO_eq, ↓qRaise_eq, ↓qTry_eq, ↓qXi_eq, ↓qLenO_eq, ↓qForR3_eq, ↓qIx_l, ↓qIx_t, ↓qFld_eq, ↓qXf_eq, ↓qSetIx_eq, ↓qIxO_eq, ↓qEqD_eq, ↓tryD_nx, ↓tryD_rt, ↓tryD_bk, ↓tryD_ct, ↓tryD_ex, ↓endsP_nx, ↓endsP_rt, ↓endsP_ex, ↓endsI_nx, ↓endsI_rt, ↓endsI_ex, ↓iAdd, ↓iSub, ↓iMul, ↓iDiv, ↓iMod, ↓iPow, ↓iLt, ↓iLe, ↓iGt, ↓iGe, atI_l0, atI_l1, atI_l2, atI_l3, atI_l4, atI_l5, atI_l6, atI_l7, atI_l8, atI_l9, atI_l10, atI_l11, atI_l12, lookup_hd, lookup_tl, putP_nil, putP_hd, putP_tl, List.lookup_nil, true_and, and_true, ↓reduceIte, if_true, if_false, exists_eq_left', exists_eq_left, Option.some.injEq, Sl.ins.injEq, Bool.false_xor, Bool.true_xor, beq_iff_eq, decide_eq_true_eq, Bool.not_true, Bool.not_false, Bool.false_eq_true, Nat.reduceLeDiff, Nat.reduceLT, Bool.not_eq_true', beq_eq_false_iff_ne, decide_eq_false_iff_not, reduceCtorEq, ne_eq, not_false_eq_true, not_true_eq_false, true_imp_iff, false_imp_iff, forall_const, beq_self_eq_true, Bool.and_self, isiInt, isiBool, isiStr, isiC, nfC, inL, startP, startI, setAll, List.map_cons, List.map_nil, List.length_cons, List.length_nil, List.cons_append, List.nil_append, List.append_nil, List.replicate, List.getElem?_cons_zero, List.getElem?_cons_succ, List.set_cons_zero, List.set_cons_succ, Nat.reduceSub, Nat.reduceAdd, List.getD_cons_zero, lstI]
    split
    · rename_i hl
      obtain ⟨n, rfl⟩ := Int.eq_ofNat_of_zero_le hk
      rw [List.length_map] at hl
      have hl : n < ns.length := by omega
      rw [show atI (ns.map PV.int) (n : Int) = some (.int ns[n]) by rw [atI_nth, List.getElem?_map, List.getElem?_eq_getElem hl]; rfl]
      exact h _
    · refine ⟨fun ρ => ∃ c v, ρ = [some (.pv (.lst (ns.map PV.int))), some (.pv (.int k)), some (.pv (.int c)), v], ?_, ?_⟩
      · simp (disch := decide) only [↓qVar_eq, ↓qC_eq, ↓qOp_eq, ↓qI_eq, ↓qI0_eq, ↓qEq_eq, ↓qIsN_eq, ↓qUn_eq, ↓qNeg_eq, ↓qB_eq, ↓qNotT_eq, ↓qAndT_eq, ↓qOrT_eq, ↓qAndV_eq, ↓qOrV_eq, ↓qNotV_eq, ↓qIf_eq, ↓qNil_eq, ↓qCons_eq, ↓qTup_eq, ↓qLst_eq, ↓qPart_eq, ↓qNoPart_eq, ↓qSl_eq, ↓qNext_eq, ↓qSeq_eq, ↓qBreak_eq, ↓qCont_eq, ↓qDrop_eq, ↓qRet_eq, ↓qRetN_eq, ↓qIfS_eq, ↓qNever_eq, ↓qSet_eq, ↓qOwn_eq, ↓qFreeze_eq, ↓qApp_eq, ↓qPar_eq, ↓qUnp_eq, ↓qUnpL_eq, ↓qFldS_eq, ↓qForL_eq, ↓qForT_eq, ↓qForR1_eq, ↓qForR2_eq, ↓qCall_eq, ↓qMake_eq, ↓qMeth_eq, ↓qProp_eq, ↓qCB_eq, ↓cAbs_eq, ↓cInt_eq, ↓cGcd_eq, ↓cLen_eq, ↓cLenS_eq, ↓qBits_eq, ↓qIsi_eq, ↓qBin_eq, ↓qUna_eq, ↓cAbsO_eq, ↓qEqO_eq, ↓qRaise_eq, ↓qTry_eq, ↓qXi_eq, ↓qLenO_eq, ↓qForR3_eq, ↓qIx_l, ↓qIx_t, ↓qFld_eq, ↓qXf_eq, ↓qSetIx_eq, ↓qIxO_eq, ↓qEqD_eq, ↓tryD_nx, ↓tryD_rt, ↓tryD_bk, ↓tryD_ct, ↓tryD_ex, ↓endsP_nx, ↓endsP_rt, ↓endsP_ex, ↓endsI_nx, ↓endsI_rt, ↓endsI_ex, ↓iAdd, ↓iSub, ↓iMul, ↓iDiv, ↓iMod, ↓iPow, ↓iLt, ↓iLe, ↓iGt, ↓iGe, atI_l0, atI_l1, atI_l2, atI_l3, atI_l4, atI_l5, atI_l6, atI_l7, atI_l8, atI_l9, atI_l10, atI_l11, atI_l12, lookup_hd, lookup_tl, putP_nil, putP_hd, putP_tl, List.lookup_nil, true_and, and_true, ↓reduceIte, if_true, if_false, exists_eq_left', exists_eq_left, Option.some.injEq, Sl.ins.injEq, Bool.false_xor, Bool.true_xor, beq_iff_eq, decide_eq_true_eq, Bool.not_true, Bool.not_false, Bool.false_eq_true, Nat.reduceLeDiff, Nat.reduceLT, Bool.not_eq_true', beq_eq_false_iff_ne, decide_eq_false_iff_not, reduceCtorEq, ne_eq, not_false_eq_true, not_true_eq_false, true_imp_iff, false_imp_iff, forall_const, beq_self_eq_true, Bool.and_self, isiInt, isiBool, isiStr, isiC, nfC, inL, startP, startI, setAll, List.map_cons, List.map_nil, List.length_cons, List.length_nil, List.cons_append, List.nil_append, List.append_nil, List.replicate, List.getElem?_cons_zero, List.getElem?_cons_succ, List.set_cons_zero, List.set_cons_succ, Nat.reduceSub, Nat.reduceAdd, List.getD_cons_zero]
        refine loop_at (fun _ ρ => ∃ c v, ρ = [some (.pv (.lst (ns.map PV.int))), some (.pv (.int k)), some (.pv (.int c)), v]) ⟨_, _, rfl⟩ ?_ (fun _ h => h)
        rintro j x ρ N hx hN ⟨c, v, rfl⟩
        obtain ⟨z, rfl⟩ : ∃ z, x = PV.int z := by
          have hm : x ∈ ns.map PV.int := by
            have := List.mem_of_getElem? hx
            unfold cutP at this
            exact List.mem_of_mem_drop (List.mem_of_mem_take this)
          obtain ⟨z, _, rfl⟩ := List.mem_map.mp hm
          exact ⟨z, rfl⟩
        simp (disch := decide) only [↓qVar_eq, ↓qC_eq, ↓qOp_eq, ↓qI_eq, ↓qI0_eq, ↓qEq_eq, ↓qIsN_eq, ↓qUn_eq, ↓qNeg_eq, ↓qB_eq, ↓qNotT_eq, ↓qAndT_eq, ↓qOrT_eq, ↓qAndV_eq, ↓qOrV_eq, ↓qNotV_eq, ↓qIf_eq, ↓qNil_eq, ↓qCons_eq, ↓qTup_eq, ↓qLst_eq, ↓qPart_eq, ↓qNoPart_eq, ↓qSl_eq, ↓qNext_eq, ↓qSeq_eq, ↓qBreak_eq, ↓qCont_eq, ↓qDrop_eq, ↓qRet_eq, ↓qRetN_eq, ↓qIfS_eq, ↓qNever_eq, ↓qSet_eq, ↓qOwn_eq, ↓qFreeze_eq, ↓qApp_eq, ↓qPar_eq, ↓qUnp_eq, ↓qUnpL_eq, ↓qFldS_eq, ↓qForL_eq, ↓qForT_eq, ↓qForR1_eq, ↓qForR2_eq, ↓qCall_eq, ↓qMake_eq, ↓qMeth_eq, ↓qProp_eq, ↓qCB_eq, ↓cAbs_eq, ↓cInt_eq, ↓cGcd_eq, ↓cLen_eq, ↓cLenS_eq, ↓qBits_eq, ↓qIsi_eq, ↓qBin_eq, ↓qUna_eq, ↓cAbsO_eq, ↓qEqO_eq, ↓qRaise_eq, ↓qTry_eq, ↓qXi_eq, ↓qLenO_eq, ↓qForR3_eq, ↓qIx_l, ↓qIx_t, ↓qFld_eq, ↓qXf_eq, ↓qSetIx_eq, ↓qIxO_eq, ↓qEqD_eq, ↓tryD_nx, ↓tryD_rt, ↓tryD_bk, ↓tryD_ct, ↓tryD_ex, ↓endsP_nx, ↓endsP_rt, ↓endsP_ex, ↓endsI_nx, ↓endsI_rt, ↓endsI_ex, ↓iAdd, ↓iSub, ↓iMul, ↓iDiv, ↓iMod, ↓iPow, ↓iLt, ↓iLe, ↓iGt, ↓iGe, atI_l0, atI_l1, atI_l2, atI_l3, atI_l4, atI_l5, atI_l6, atI_l7, atI_l8, atI_l9, atI_l10, atI_l11, atI_l12, lookup_hd, lookup_tl, putP_nil, putP_hd, putP_tl, List.lookup_nil, true_and, and_true, ↓reduceIte, if_true, if_false, exists_eq_left', exists_eq_left, Option.some.injEq, Sl.ins.injEq, Bool.false_xor, Bool.true_xor, beq_iff_eq, decide_eq_true_eq, Bool.not_true, Bool.not_false, Bool.false_eq_true, Nat.reduceLeDiff, Nat.reduceLT, Bool.not_eq_true', beq_eq_false_iff_ne, decide_eq_false_iff_not, reduceCtorEq, ne_eq, not_false_eq_true, not_true_eq_false, true_imp_iff, false_imp_iff, forall_const, beq_self_eq_true, Bool.and_self, isiInt, isiBool, isiStr, isiC, nfC, inL, startP, startI, setAll, List.map_cons, List.map_nil, List.length_cons, List.length_nil, List.cons_append, List.nil_append, List.append_nil, List.replicate, List.getElem?_cons_zero, List.getElem?_cons_succ, List.set_cons_zero, List.set_cons_succ, Nat.reduceSub, Nat.reduceAdd, List.getD_cons_zero]
        exact ⟨mulR (by decide), by decide, by decide, hN _ ⟨_, _, rfl⟩⟩
      · rintro ρ' ⟨c, v, rfl⟩
        simp (disch := decide) only [↓qVar_eq, ↓qC_eq, ↓qOp_eq, ↓qI_eq, ↓qI0_eq, ↓qEq_eq, ↓qIsN_eq, ↓qUn_eq, ↓qNeg_eq, ↓qB_eq, ↓qNotT_eq, ↓qAndT_eq, ↓qOrT_eq, ↓qAndV_eq, ↓qOrV_eq, ↓qNotV_eq, ↓qIf_eq, ↓qNil_eq, ↓qCons_eq, ↓qTup_eq, ↓qLst_eq, ↓qPart_eq, ↓qNoPart_eq, ↓qSl_eq, ↓qNext_eq, ↓qSeq_eq, ↓qBreak_eq, ↓qCont_eq, ↓qDrop_eq, ↓qRet_eq, ↓qRetN_eq, ↓qIfS_eq, ↓qNever_eq, ↓qSet_eq, ↓qOwn_eq, ↓qFreeze_eq, ↓qApp_eq, ↓qPar_eq, ↓qUnp_eq, ↓qUnpL_eq, ↓qFldS_eq, ↓qForL_eq, ↓qForT_eq, ↓qForR1_eq, ↓qForR2_eq, ↓qCall_eq, ↓qMake_eq, ↓qMeth_eq, ↓qProp_eq, ↓qCB_eq, ↓cAbs_eq, ↓cInt_eq, ↓cGcd_eq, ↓cLen_eq, ↓cLenS_eq, ↓qBits_eq, ↓qIsi_eq, ↓qBin_eq, ↓qUna_eq, ↓cAbsO_eq, ↓qEqO_eq, ↓qRaise_eq, ↓qTry_eq, ↓qXi_eq, ↓qLenO_eq, ↓qForR3_eq, ↓qIx_l, ↓qIx_t, ↓qFld_eq, ↓qXf_eq, ↓qSetIx_eq, ↓qIxO_eq, ↓qEqD_eq, ↓tryD_nx, ↓tryD_rt, ↓tryD_bk, ↓tryD_ct, ↓tryD_ex, ↓endsP_nx, ↓endsP_rt, ↓endsP_ex, ↓endsI_nx, ↓endsI_rt, ↓endsI_ex, ↓iAdd, ↓iSub, ↓iMul, ↓iDiv, ↓iMod, ↓iPow, ↓iLt, ↓iLe, ↓iGt, ↓iGe, atI_l0, atI_l1, atI_l2, atI_l3, atI_l4, atI_l5, atI_l6, atI_l7, atI_l8, atI_l9, atI_l10, atI_l11, atI_l12, lookup_hd, lookup_tl, putP_nil, putP_hd, putP_tl, List.lookup_nil, true_and, and_true, ↓reduceIte, if_true, if_false, exists_eq_left', exists_eq_left, Option.some.injEq, Sl.ins.injEq, Bool.false_xor, Bool.true_xor, beq_iff_eq, decide_eq_true_eq, Bool.not_true, Bool.not_false, Bool.false_eq_true, Nat.reduceLeDiff, Nat.reduceLT, Bool.not_eq_true', beq_eq_false_iff_ne, decide_eq_false_iff_not, reduceCtorEq, ne_eq, not_false_eq_true, not_true_eq_false, true_imp_iff, false_imp_iff, forall_const, beq_self_eq_true, Bool.and_self, isiInt, isiBool, isiStr, isiC, nfC, inL, startP, startI, setAll, List.map_cons, List.map_nil, List.length_cons, List.length_nil, List.cons_append, List.nil_append, List.append_nil, List.replicate, List.getElem?_cons_zero, List.getElem?_cons_succ, List.set_cons_zero, List.set_cons_succ, Nat.reduceSub, Nat.reduceAdd, List.getD_cons_zero]
        exact ⟨mulR (by decide), mulR (by decide), h _⟩

theorem ok_law_mix (T : Txt K mg a) (S : Fs K a d) : FnOk P w K mg base (L2.CX P w) 1 a.f_law_mix d.d_law_mix ["cell", "k", "at"] (spP K (P_law_mix a)) := by
  refine fa_q (k := 0) S.F_law_mix sc_law_mix (len_law_mix a) (fun cdv A outer s H E hr =>
    (jss_cons (js_set 3 sc_law_mix.nd (je_mod (je_toint T.b_int (ja_cons (je_add (je_add (je_add (je_mul (je_var 0) je_int) (je_mul (je_var 1) je_int)) (je_mul (je_var 2) je_int)) je_int) ja_nil)) je_int))
      (jss_cons (js_set 3 sc_law_mix.nd (je_mod (je_toint T.b_int (ja_cons (je_add (je_add (je_mul (je_var 3) (je_var 3)) (je_mul (je_var 2) je_int)) je_int) ja_nil)) je_int))
      (jss_cons (js_set 3 sc_law_mix.nd (je_mod (je_toint T.b_int (ja_cons (je_add (je_add (je_mul (je_var 3) (je_var 3)) (je_mul (je_var 1) je_int)) je_int) ja_nil)) je_int))
      (jss_one (js_ret (je_mod (je_toint T.b_int (ja_cons (je_var 3) ja_nil)) je_int))))))) ?pure
  case pure =>
    rintro xs y Q ⟨c, k, t, rfl, h⟩
    simp (disch := decide) only [↓qVar_eq, ↓qC_eq, ↓qOp_eq, ↓qI_eq, ↓qI0_eq, ↓qEq_eq, ↓qIsN_eq, ↓qUn_eq, ↓qNeg_eq, ↓qB_eq, ↓qNotT_eq, ↓qAndT_eq, ↓qOrT_eq, ↓qAndV_eq, ↓qOrV_eq, ↓qNotV_eq, ↓qIf_eq, ↓qNil_eq, ↓qCons_eq, ↓qTup_eq, ↓qLst_eq, ↓qPart_eq, ↓qNoPart_eq, ↓qSl_eq, ↓qNext_eq, ↓qSeq_eq, ↓qBreak_eq, ↓qCont_eq, ↓qDrop_eq, ↓qRet_eq, ↓qRetN_eq, ↓qIfS_eq, ↓qNever_eq, ↓qSet_eq, ↓qOwn_eq, ↓qFreeze_eq, ↓qApp_eq, ↓qPar_eq, ↓qUnp_eq, ↓qUnpL_eq, ↓qFldS_eq, ↓qForL_eq, ↓qForT_eq, ↓qForR1_eq, ↓qForR2_eq, ↓qCall_eq, ↓qMake_eq, ↓qMeth_eq, ↓qProp_eq, ↓qCB_eq, ↓cAbs_eq, ↓cInt_eq, ↓cGcd_eq, ↓cLen_eq, ↓cLenS_eq, ↓qBits_eq, ↓qIsi_eq, ↓qBin_eq, ↓qUna_eq, ↓cAbsO_eq, ↓qEqO_eq, ↓qRaise_eq, ↓qTry_eq, ↓qXi_eq, ↓qLenO_eq, ↓qForR3_eq, ↓qIx_l, ↓qIx_t, ↓qFld_eq, ↓qXf_eq, ↓qSetIx_eq, ↓qIxO_eq, ↓qEqD_eq, ↓tryD_nx, ↓tryD_rt, ↓tryD_bk, ↓tryD_ct, ↓tryD_ex, ↓endsP_nx, ↓endsP_rt, ↓endsP_ex, ↓endsI_nx, ↓endsI_rt, ↓endsI_ex, ↓iAdd, ↓iSub, ↓iMul, ↓iDiv, ↓iMod, ↓iPow, ↓iLt, ↓iLe, ↓iGt, ↓iGe, atI_l0, atI_l1, atI_l2, atI_l3, atI_l4, atI_l5, atI_l6, atI_l7, atI_l8, atI_l9, atI_l10, atI_l11, atI_l12, lookup_hd, lookup_tl, putP_nil, putP_hd, putP_tl, List.lookup_nil, true_and, and_true, ↓reduceIte, if_true, if_false, exists_eq_left', exists_eq_left, Option.some.injEq, Sl.ins.injEq, Bool.false_xor, Bool.true_xor, beq_iff_eq, decide_eq_true_eq, Bool.not_true, Bool.not_false, Bool.false_eq_true, Nat.reduceLeDiff, Nat.reduceLT, Bool.not_eq_true', beq_eq_false_iff_ne, decide_eq_false_iff_not, reduceCtorEq, ne_eq, not_false_eq_true, not_true_eq_false, true_imp_iff, false_imp_iff, forall_const, beq_self_eq_true, Bool.and_self, isiInt, isiBool, isiStr, isiC, nfC, inL, startP, startI, setAll, List.map_cons, List.map_nil, List.length_cons, List.length_nil, List.cons_append, List.nil_append, List.append_nil, List.replicate, List.getElem?_cons_zero, List.getElem?_cons_succ, List.set_cons_zero, List.set_cons_succ, Nat.reduceSub, Nat.reduceAdd, List.getD_cons_zero]
    have e1 : ∀ x : Int, CMul (x % 2147483647) (x % 2147483647) ∨ CMulW (x % 2147483647) (x % 2147483647) := fun x => mulR ⟨by have := Int.emod_nonneg x (by decide : (2147483647 : Int) ≠ 0); omega, by have := Int.emod_lt_of_pos x (by decide : (0 : Int) < 2147483647); omega⟩
    have e2 : ∀ x : Int, CMul (x % 2147483629) (x % 2147483629) ∨ CMulW (x % 2147483629) (x % 2147483629) := fun x => mulR ⟨by have := Int.emod_nonneg x (by decide : (2147483629 : Int) ≠ 0); omega, by have := Int.emod_lt_of_pos x (by decide : (0 : Int) < 2147483629); omega⟩
    exact ⟨mulR (by decide), mulR (by decide), mulR (by decide), by decide, e1 _, mulR (by decide), by decide, e2 _, mulR (by decide), by decide, by decide, h _ (Int.emod_nonneg _ (by decide)) (Int.emod_lt_of_pos _ (by decide))⟩

theorem ok_law_draws (T : Txt K mg a) (S : Fs K a d) : FnOk P w K mg base (L2.CX P w) 2 a.f_law_draws d.d_law_draws ["script", "k", "many"] (spP K (P_law_draws a)) := by
  refine fa_q (k := 1) S.F_law_draws sc_law_draws (len_law_draws a) (fun cdv A outer s H E hr =>
    (jss_cons (js_set 3 sc_law_draws.nd (je_call (ok_law_cell T S) (hr.mono (by decide)) T.mg_law_cell S.F_law_cell.kp S.B_law_cell .nil (fun _ => .nil) (tkOf (takes_of rfl rfl rfl rfl)) (ja_cons (je_var 0) (ja_cons (je_var 1) ja_nil))))
      (jss_cons (js_set 4 sc_law_draws.nd (je_ge (je_var 3) (je_pow je_int je_int)))
      (jss_cons (js_own 5 sc_law_draws.nd ja_nil)
      (jss_cut (js_forR1 6 (passes_of rfl) rfl sc_law_draws.nd T.b_range (ja_cons (je_var 2) ja_nil)
        (jss_one (js_if (jt_w (jw_and (jt_val (je_var 4)) (jw_and1 (jt_gt (je_var 3) je_int)))) (jss_cons (js_app 5 (je_mod (je_toint T.b_int (ja_cons (je_var 3) ja_nil)) je_int) (hpe := pe_bm PySem.F.plainAttrs_list PySem.F.slot_list_append PySem.F.type_list_append mt_append (pv 5) (pa_cons (je_mod (je_toint T.b_int (ja_cons (je_var 3) ja_nil)) je_int) pa_nil)))
      (jss_one (js_set 3 sc_law_draws.nd (je_div (je_var 3) je_int)))) (jss_one (js_app 5 (je_call (ok_law_mix T S) (hr.mono (by decide)) T.mg_law_mix S.F_law_mix.kp S.B_law_mix .nil (fun _ => .nil) (tkOf (takes_of rfl rfl rfl rfl)) (ja_cons (je_var 3) (ja_cons (je_var 1) (ja_cons (je_var 6) ja_nil)))) (hpe := pe_bm PySem.F.plainAttrs_list PySem.F.slot_list_append PySem.F.type_list_append mt_append (pv 5) (pa_cons (je_call (ok_law_mix T S) (hr.mono (by decide)) T.mg_law_mix S.F_law_mix.kp S.B_law_mix .nil (fun _ => .nil) (tkOf (takes_of rfl rfl rfl rfl)) (ja_cons (je_var 3) (ja_cons (je_var 1) (ja_cons (je_var 6) ja_nil)))) pa_nil)))))))
      (jss_freeze 5 (jss_one (js_ret (je_var 5))))))))) ?pure
  case pure =>
    rintro xs y Q ⟨ns, k, m, rfl, hk, hn, hm, hm2, h⟩
    simp (disch := decide) only [↓qVar_eq, ↓qC_eq, ↓qOp_eq, ↓qI_eq, ↓qI0_eq, ↓qEq_eq, ↓qIsN_eq, ↓qUn_eq, ↓qNeg_eq, ↓qB_eq, ↓qNotT_eq, ↓qAndT_eq, ↓qOrT_eq, ↓qAndV_eq, ↓qOrV_eq, ↓qNotV_eq, ↓qIf_eq, ↓qNil_eq, ↓qCons_eq, ↓qTup_eq, ↓qLst_eq, ↓qPart_eq, ↓qNoPart_eq, ↓qSl_eq, ↓qNext_eq, ↓qSeq_eq, ↓qBreak_eq, ↓qCont_eq, ↓qDrop_eq, ↓qRet_eq, ↓qRetN_eq, ↓qIfS_eq, ↓qNever_eq, ↓qSet_eq, ↓qOwn_eq, ↓qFreeze_eq, ↓qApp_eq, ↓qPar_eq, ↓qUnp_eq, ↓qUnpL_eq, ↓qFldS_eq, ↓qForL_eq, ↓qForT_eq, ↓qForR1_eq, ↓qForR2_eq, ↓qCall_eq, ↓qMake_eq, ↓qMeth_eq, ↓qProp_eq, ↓qCB_eq, ↓cAbs_eq, ↓cInt_eq, ↓cGcd_eq, ↓cLen_eq, ↓cLenS_eq, ↓qBits_eq, ↓qIsi_eq, ↓qBin_eq, ↓qUna_eq, ↓cAbsO_eq, ↓qEqO_eq, ↓qRaise_eq, ↓qTry_eq, ↓qXi_eq, ↓qLenO_eq, ↓qForR3_eq, ↓qIx_l, ↓qIx_t, ↓qFld_eq, ↓qXf_eq, ↓qSetIx_eq, ↓qIxO_eq, ↓qEqD_eq, ↓tryD_nx, ↓tryD_rt, ↓tryD_bk, ↓tryD_ct, ↓tryD_ex, ↓endsP_nx, ↓endsP_rt, ↓endsP_ex, ↓endsI_nx, ↓endsI_rt, ↓endsI_ex, ↓iAdd, ↓iSub, ↓iMul, ↓iDiv, ↓iMod, ↓iPow, ↓iLt, ↓iLe, ↓iGt, ↓iGe, atI_l0, atI_l1, atI_l2, atI_l3, atI_l4, atI_l5, atI_l6, atI_l7, atI_l8, atI_l9, atI_l10, atI_l11, atI_l12, lookup_hd, lookup_tl, putP_nil, putP_hd, putP_tl, List.lookup_nil, true_and, and_true, ↓reduceIte, if_true, if_false, exists_eq_left', exists_eq_left, Option.some.injEq, Sl.ins.injEq, Bool.false_xor, Bool.true_xor, beq_iff_eq, decide_eq_true_eq, Bool.not_true, Bool.not_false, Bool.false_eq_true, Nat.reduceLeDiff, Nat.reduceLT, Bool.not_eq_true', beq_eq_false_iff_ne, decide_eq_false_iff_not, reduceCtorEq, ne_eq, not_false_eq_true, not_true_eq_false, true_imp_iff, false_imp_iff, forall_const, beq_self_eq_true, Bool.and_self, isiInt, isiBool, isiStr, isiC, nfC, inL, startP, startI, setAll, List.map_cons, List.map_nil, List.length_cons, List.length_nil, List.cons_append, List.nil_append, List.append_nil, List.replicate, List.getElem?_cons_zero, List.getElem?_cons_succ, List.set_cons_zero, List.set_cons_succ, Nat.reduceSub, Nat.reduceAdd, List.getD_cons_zero]
    refine ⟨ns, k, rfl, hk, hn, fun c => ?_⟩
    simp (disch := decide) only [↓qVar_eq, ↓qC_eq, ↓qOp_eq, ↓qI_eq, ↓qI0_eq, ↓qEq_eq, ↓qIsN_eq, ↓qUn_eq, ↓qNeg_eq, ↓qB_eq, ↓qNotT_eq, ↓qAndT_eq, ↓qOrT_eq, ↓qAndV_eq, ↓qOrV_eq, ↓qNotV_eq, ↓qIf_eq, ↓qNil_eq, ↓qCons_eq, ↓qTup_eq, ↓qLst_eq, ↓qPart_eq, ↓qNoPart_eq, ↓qSl_eq, ↓qNext_eq, ↓qSeq_eq, ↓qBreak_eq, ↓qCont_eq, ↓qDrop_eq, ↓qRet_eq, ↓qRetN_eq, ↓qIfS_eq, ↓qNever_eq, ↓qSet_eq, ↓qOwn_eq, ↓qFreeze_eq, ↓qApp_eq, ↓qPar_eq, ↓qUnp_eq, ↓qUnpL_eq, ↓qFldS_eq, ↓qForL_eq, ↓qForT_eq, ↓qForR1_eq, ↓qForR2_eq, ↓qCall_eq, ↓qMake_eq, ↓qMeth_eq, ↓qProp_eq, ↓qCB_eq, ↓cAbs_eq, ↓cInt_eq, ↓cGcd_eq, ↓cLen_eq, ↓cLenS_eq, ↓qBits_eq, ↓qIsi_eq, ↓qBin_eq, ↓qUna_eq, ↓cAbsO_eq, ↓qEqO_eq, ↓qRaise_eq, ↓qTry_eq, ↓qXi_eq, ↓qLenO_eq, ↓qForR3_eq, ↓qIx_l, ↓qIx_t, ↓qFld_eq, ↓qXf_eq, ↓qSetIx_eq, ↓qIxO_eq, ↓qEqD_eq, ↓tryD_nx, ↓tryD_rt, ↓tryD_bk, ↓tryD_ct, ↓tryD_ex, ↓endsP_nx, ↓endsP_rt, ↓endsP_ex, ↓endsI_nx, ↓endsI_rt, ↓endsI_ex, ↓iAdd, ↓iSub, ↓iMul, ↓iDiv, ↓iMod, ↓iPow, ↓iLt, ↓iLe, ↓iGt, ↓iGe, atI_l0, atI_l1, atI_l2, atI_l3, atI_l4, atI_l5, atI_l6, atI_l7, atI_l8, atI_l9, atI_l10, atI_l11, atI_l12, lookup_hd, lookup_tl, putP_nil, putP_hd, putP_tl, List.lookup_nil, true_and, and_true, ↓reduceIte, if_true, if_false, exists_eq_left', exists_eq_left, Option.some.injEq, Sl.ins.injEq, Bool.false_xor, Bool.true_xor, beq_iff_eq, decide_eq_true_eq, Bool.not_true, Bool.not_false, Bool.false_eq_true, Nat.reduceLeDiff, Nat.reduceLT, Bool.not_eq_true', beq_eq_false_iff_ne, decide_eq_false_iff_not, reduceCtorEq, ne_eq, not_false_eq_true, not_true_eq_false, true_imp_iff, false_imp_iff, forall_const, beq_self_eq_true, Bool.and_self, isiInt, isiBool, isiStr, isiC, nfC, inL, startP, startI, setAll, List.map_cons, List.map_nil, List.length_cons, List.length_nil, List.cons_append, List.nil_append, List.append_nil, List.replicate, List.getElem?_cons_zero, List.getElem?_cons_succ, List.set_cons_zero, List.set_cons_succ, Nat.reduceSub, Nat.reduceAdd, List.getD_cons_zero]
    refine ⟨powC, ?_⟩
    generalize decide ((10 : Int) ^ Int.toNat 18 ≤ c) = dg
    refine ⟨fun ρ => ∃ (c : Int) (v : Option Sl) (rs : List Int), (rs.length : Int) = m ∧ (∀ r ∈ rs, 0 ≤ r ∧ r < 1024) ∧ ρ = [some (.pv (lstI ns)), some (.pv (.int k)), some (.pv (.int m)), some (.pv (.int c)), some (.pv (.bl dg)), some (.own (rs.map PV.int)), v], ?_, ?_⟩
    · simp (disch := decide) only [↓qVar_eq, ↓qC_eq, ↓qOp_eq, ↓qI_eq, ↓qI0_eq, ↓qEq_eq, ↓qIsN_eq, ↓qUn_eq, ↓qNeg_eq, ↓qB_eq, ↓qNotT_eq, ↓qAndT_eq, ↓qOrT_eq, ↓qAndV_eq, ↓qOrV_eq, ↓qNotV_eq, ↓qIf_eq, ↓qNil_eq, ↓qCons_eq, ↓qTup_eq, ↓qLst_eq, ↓qPart_eq, ↓qNoPart_eq, ↓qSl_eq, ↓qNext_eq, ↓qSeq_eq, ↓qBreak_eq, ↓qCont_eq, ↓qDrop_eq, ↓qRet_eq, ↓qRetN_eq, ↓qIfS_eq, ↓qNever_eq, ↓qSet_eq, ↓qOwn_eq, ↓qFreeze_eq, ↓qApp_eq, ↓qPar_eq, ↓qUnp_eq, ↓qUnpL_eq, ↓qFldS_eq, ↓qForL_eq, ↓qForT_eq, ↓qForR1_eq, ↓qForR2_eq, ↓qCall_eq, ↓qMake_eq, ↓qMeth_eq, ↓qProp_eq, ↓qCB_eq, ↓cAbs_eq, ↓cInt_eq, ↓cGcd_eq, ↓cLen_eq, ↓cLenS_eq, ↓qBits_eq, ↓qIsi_eq, ↓qBin_eq, ↓qUna_eq, ↓cAbsO_eq, ↓qEqO_eq, ↓qRaise_eq, ↓qTry_eq, ↓qXi_eq, ↓qLenO_eq, ↓qForR3_eq, ↓qIx_l, ↓qIx_t, ↓qFld_eq, ↓qXf_eq, ↓qSetIx_eq, ↓qIxO_eq, ↓qEqD_eq, ↓tryD_nx, ↓tryD_rt, ↓tryD_bk, ↓tryD_ct, ↓tryD_ex, ↓endsP_nx, ↓endsP_rt, ↓endsP_ex, ↓endsI_nx, ↓endsI_rt, ↓endsI_ex, ↓iAdd, ↓iSub, ↓iMul, ↓iDiv, ↓iMod, ↓iPow, ↓iLt, ↓iLe, ↓iGt, ↓iGe, atI_l0, atI_l1, atI_l2, atI_l3, atI_l4, atI_l5, atI_l6, atI_l7, atI_l8, atI_l9, atI_l10, atI_l11, atI_l12, lookup_hd, lookup_tl, putP_nil, putP_hd, putP_tl, List.lookup_nil, true_and, and_true, ↓reduceIte, if_true, if_false, exists_eq_left', exists_eq_left, Option.some.injEq, Sl.ins.injEq, Bool.false_xor, Bool.true_xor, beq_iff_eq, decide_eq_true_eq, Bool.not_true, Bool.not_false, Bool.false_eq_true, Nat.reduceLeDiff, Nat.reduceLT, Bool.not_eq_true', beq_eq_false_iff_ne, decide_eq_false_iff_not, reduceCtorEq, ne_eq, not_false_eq_true, not_true_eq_false, true_imp_iff, false_imp_iff, forall_const, beq_self_eq_true, Bool.and_self, isiInt, isiBool, isiStr, isiC, nfC, inL, startP, startI, setAll, List.map_cons, List.map_nil, List.length_cons, List.length_nil, List.cons_append, List.nil_append, List.append_nil, List.replicate, List.getElem?_cons_zero, List.getElem?_cons_succ, List.set_cons_zero, List.set_cons_succ, Nat.reduceSub, Nat.reduceAdd, List.getD_cons_zero]
      refine ⟨by omega, by omega, ?_⟩
      obtain ⟨n, rfl⟩ := Int.eq_ofNat_of_zero_le hm
      rw [Int.toNat_natCast]
      refine loop_at (fun j ρ => ∃ (c : Int) (v : Option Sl) (rs : List Int), rs.length = j ∧ (∀ r ∈ rs, 0 ≤ r ∧ r < 1024) ∧ ρ = [some (.pv (lstI ns)), some (.pv (.int k)), some (.pv (.int n)), some (.pv (.int c)), some (.pv (.bl dg)), some (.own (rs.map PV.int)), v]) ⟨c, none, [], rfl, (fun _ z => nomatch z), rfl⟩ ?_ ?_
      · rintro j x ρ N hx hN ⟨c, v, rs, h1, h2, rfl⟩
        obtain ⟨hj, rfl⟩ := rangeP_at hx
        have hl : (rs.map PV.int).length < 10000 := by rw [List.length_map]; omega
        have add : ∀ (r c : Int) (v : Option Sl), 0 ≤ r → r < 1024 → N [some (.pv (lstI ns)), some (.pv (.int k)), some (.pv (.int n)), some (.pv (.int c)), some (.pv (.bl dg)), some (.own (rs.map PV.int ++ [.int r])), v] := by
          intro r c v r1 r2
          refine hN _ ⟨c, v, rs ++ [r], ?_, ?_, ?_⟩
          · rw [List.length_append, h1]
            rfl
          · intro x hx
            rcases List.mem_append.mp hx with hx | hx
            · exact h2 x hx
            · rw [List.mem_singleton.mp hx]
              exact ⟨r1, r2⟩
          · rw [List.map_append]
            rfl
        simp (disch := decide) only [↓qVar_eq, ↓qC_eq, ↓qOp_eq, ↓qI_eq, ↓qI0_eq, ↓qEq_eq, ↓qIsN_eq, ↓qUn_eq, ↓qNeg_eq, ↓qB_eq, ↓qNotT_eq, ↓qAndT_eq, ↓qOrT_eq, ↓qAndV_eq, ↓qOrV_eq, ↓qNotV_eq, ↓qIf_eq, ↓qNil_eq, ↓qCons_eq, ↓qTup_eq, ↓qLst_eq, ↓qPart_eq, ↓qNoPart_eq, ↓qSl_eq, ↓qNext_eq, ↓qSeq_eq, ↓qBreak_eq, ↓qCont_eq, ↓qDrop_eq, ↓qRet_eq, ↓qRetN_eq, ↓qIfS_eq, ↓qNever_eq, ↓qSet_eq, ↓qOwn_eq, ↓qFreeze_eq, ↓qApp_eq, ↓qPar_eq, ↓qUnp_eq, ↓qUnpL_eq, ↓qFldS_eq, ↓qForL_eq, ↓qForT_eq, ↓qForR1_eq, ↓qForR2_eq, ↓qCall_eq, ↓qMake_eq, ↓qMeth_eq, ↓qProp_eq, ↓qCB_eq, ↓cAbs_eq, ↓cInt_eq, ↓cGcd_eq, ↓cLen_eq, ↓cLenS_eq, ↓qBits_eq, ↓qIsi_eq, ↓qBin_eq, ↓qUna_eq, ↓cAbsO_eq, ↓qEqO_eq, ↓qRaise_eq, ↓qTry_eq, ↓qXi_eq, ↓qLenO_eq, ↓qForR3_eq, ↓qIx_l, ↓qIx_t, ↓qFld_eq, ↓qXf_eq, ↓qSetIx_eq, ↓qIxO_eq, ↓qEqD_eq, ↓tryD_nx, ↓tryD_rt, ↓tryD_bk, ↓tryD_ct, ↓tryD_ex, ↓endsP_nx, ↓endsP_rt, ↓endsP_ex, ↓endsI_nx, ↓endsI_rt, ↓endsI_ex, ↓iAdd, ↓iSub, ↓iMul, ↓iDiv, ↓iMod, ↓iPow, ↓iLt, ↓iLe, ↓iGt, ↓iGe, atI_l0, atI_l1, atI_l2, atI_l3, atI_l4, atI_l5, atI_l6, atI_l7, atI_l8, atI_l9, atI_l10, atI_l11, atI_l12, lookup_hd, lookup_tl, putP_nil, putP_hd, putP_tl, List.lookup_nil, true_and, and_true, ↓reduceIte, if_true, if_false, exists_eq_left', exists_eq_left, Option.some.injEq, Sl.ins.injEq, Bool.false_xor, Bool.true_xor, beq_iff_eq, decide_eq_true_eq, Bool.not_true, Bool.not_false, Bool.false_eq_true, Nat.reduceLeDiff, Nat.reduceLT, Bool.not_eq_true', beq_eq_false_iff_ne, decide_eq_false_iff_not, reduceCtorEq, ne_eq, not_false_eq_true, not_true_eq_false, true_imp_iff, false_imp_iff, forall_const, beq_self_eq_true, Bool.and_self, isiInt, isiBool, isiStr, isiC, nfC, inL, startP, startI, setAll, List.map_cons, List.map_nil, List.length_cons, List.length_nil, List.cons_append, List.nil_append, List.append_nil, List.replicate, List.getElem?_cons_zero, List.getElem?_cons_succ, List.set_cons_zero, List.set_cons_succ, Nat.reduceSub, Nat.reduceAdd, List.getD_cons_zero, ↓i_mix]
        split
        · split
          · exact ⟨hl, by decide, divR (by decide) (by decide), add _ _ _ (Int.emod_nonneg _ (by decide)) (Int.emod_lt_of_pos _ (by decide))⟩
          · exact ⟨hl, fun r r1 r2 => add r _ _ r1 r2⟩
        · exact ⟨hl, fun r r1 r2 => add r _ _ r1 r2⟩
      · rintro ρ ⟨c, v, rs, h1, h2, rfl⟩
        rw [rangeP_len] at h1
        exact ⟨c, v, rs, by omega, h2, rfl⟩
    · rintro ρ' ⟨c, v, rs, h1, h2, rfl⟩
      simp (disch := decide) only [↓qVar_eq, ↓qC_eq, ↓qOp_eq, ↓qI_eq, ↓qI0_eq, ↓qEq_eq, ↓qIsN_eq, ↓qUn_eq, ↓qNeg_eq, ↓qB_eq, ↓qNotT_eq, ↓qAndT_eq, ↓qOrT_eq, ↓qAndV_eq, ↓qOrV_eq, ↓qNotV_eq, ↓qIf_eq, ↓qNil_eq, ↓qCons_eq, ↓qTup_eq, ↓qLst_eq, ↓qPart_eq, ↓qNoPart_eq, ↓qSl_eq, ↓qNext_eq, ↓qSeq_eq, ↓qBreak_eq, ↓qCont_eq, ↓qDrop_eq, ↓qRet_eq, ↓qRetN_eq, ↓qIfS_eq, ↓qNever_eq, ↓qSet_eq, ↓qOwn_eq, ↓qFreeze_eq, ↓qApp_eq, ↓qPar_eq, ↓qUnp_eq, ↓qUnpL_eq, ↓qFldS_eq, ↓qForL_eq, ↓qForT_eq, ↓qForR1_eq, ↓qForR2_eq, ↓qCall_eq, ↓qMake_eq, ↓qMeth_eq, ↓qProp_eq, ↓qCB_eq, ↓cAbs_eq, ↓cInt_eq, ↓cGcd_eq, ↓cLen_eq, ↓cLenS_eq, ↓qBits_eq, ↓qIsi_eq, ↓qBin_eq, ↓qUna_eq, ↓cAbsO_eq, ↓qEqO_eq, ↓qRaise_eq, ↓qTry_eq, ↓qXi_eq, ↓qLenO_eq, ↓qForR3_eq, ↓qIx_l, ↓qIx_t, ↓qFld_eq, ↓qXf_eq, ↓qSetIx_eq, ↓qIxO_eq, ↓qEqD_eq, ↓tryD_nx, ↓tryD_rt, ↓tryD_bk, ↓tryD_ct, ↓tryD_ex, ↓endsP_nx, ↓endsP_rt, ↓endsP_ex, ↓endsI_nx, ↓endsI_rt, ↓endsI_ex, ↓iAdd, ↓iSub, ↓iMul, ↓iDiv, ↓iMod, ↓iPow, ↓iLt, ↓iLe, ↓iGt, ↓iGe, atI_l0, atI_l1, atI_l2, atI_l3, atI_l4, atI_l5, atI_l6, atI_l7, atI_l8, atI_l9, atI_l10, atI_l11, atI_l12, lookup_hd, lookup_tl, putP_nil, putP_hd, putP_tl, List.lookup_nil, true_and, and_true, ↓reduceIte, if_true, if_false, exists_eq_left', exists_eq_left, Option.some.injEq, Sl.ins.injEq, Bool.false_xor, Bool.true_xor, beq_iff_eq, decide_eq_true_eq, Bool.not_true, Bool.not_false, Bool.false_eq_true, Nat.reduceLeDiff, Nat.reduceLT, Bool.not_eq_true', beq_eq_false_iff_ne, decide_eq_false_iff_not, reduceCtorEq, ne_eq, not_false_eq_true, not_true_eq_false, true_imp_iff, false_imp_iff, forall_const, beq_self_eq_true, Bool.and_self, isiInt, isiBool, isiStr, isiC, nfC, inL, startP, startI, setAll, List.map_cons, List.map_nil, List.length_cons, List.length_nil, List.cons_append, List.nil_append, List.append_nil, List.replicate, List.getElem?_cons_zero, List.getElem?_cons_succ, List.set_cons_zero, List.set_cons_succ, Nat.reduceSub, Nat.reduceAdd, List.getD_cons_zero]
      exact h rs h1 h2

theorem ok_law_small (T : Txt K mg a) (S : Fs K a d) : FnOk P w K mg base (L2.CX P w) 1 a.f_law_small d.d_law_small ["d"] (spP K (P_law_small a)) := by
  refine fa_q (k := 0) S.F_law_small sc_law_small (len_law_small a) (fun cdv A outer s H E hr =>
    (jss_cons (js_if (jt_eq (je_mod (je_toint T.b_int (ja_cons (je_var 0) ja_nil)) je_int) je_int) (jss_one (js_ret (je_sub (je_mod (je_toint T.b_int (ja_cons (je_div (je_var 0) je_int) ja_nil)) je_int) je_int))) jss_nil)
      (jss_one (js_ret (je_sub (je_mod (je_toint T.b_int (ja_cons (je_var 0) ja_nil)) je_int) je_int))))) ?pure
  case pure =>
    rintro xs y Q ⟨d, rfl, h⟩
    simp (disch := decide) only [↓qVar_eq, ↓qC_eq, ↓qOp_eq, ↓qI_eq, ↓qI0_eq, ↓qEq_eq, ↓qIsN_eq, ↓qUn_eq, ↓qNeg_eq, ↓qB_eq, ↓qNotT_eq, ↓qAndT_eq, ↓qOrT_eq, ↓qAndV_eq, ↓qOrV_eq, ↓qNotV_eq, ↓qIf_eq, ↓qNil_eq, ↓qCons_eq, ↓qTup_eq, ↓qLst_eq, ↓qPart_eq, ↓qNoPart_eq, ↓qSl_eq, ↓qNext_eq, ↓qSeq_eq, ↓qBreak_eq, ↓qCont_eq, ↓qDrop_eq, ↓qRet_eq, ↓qRetN_eq, ↓qIfS_eq, ↓qNever_eq, ↓qSet_eq, ↓qOwn_eq, ↓qFreeze_eq, ↓qApp_eq, ↓qPar_eq, ↓qUnp_eq, ↓qUnpL_eq, ↓qFldS_eq, ↓qForL_eq, ↓qForT_eq, ↓qForR1_eq, ↓qForR2_eq, ↓qCall_eq, ↓qMake_eq, ↓qMeth_eq, ↓qProp_eq, ↓qCB_eq, ↓cAbs_eq, ↓cInt_eq, ↓cGcd_eq, ↓cLen_eq, ↓cLenS_eq, ↓qBits_eq, ↓qIsi_eq, ↓qBin_eq, ↓qUna_eq, ↓cAbsO_eq, ↓qEqO_eq, ↓qRaise_eq, ↓qTry_eq, ↓qXi_eq, ↓qLenO_eq, ↓qForR3_eq, ↓qIx_l, ↓qIx_t, ↓qFld_eq, ↓qXf_eq, ↓qSetIx_eq, ↓qIxO_eq, ↓qEqD_eq, ↓tryD_nx, ↓tryD_rt, ↓tryD_bk, ↓tryD_ct, ↓tryD_ex, ↓endsP_nx, ↓endsP_rt, ↓endsP_ex, ↓endsI_nx, ↓endsI_rt, ↓endsI_ex, ↓iAdd, ↓iSub, ↓iMul, ↓iDiv, ↓iMod, ↓iPow, ↓iLt, ↓iLe, ↓iGt, ↓iGe, atI_l0, atI_l1, atI_l2, atI_l3, atI_l4, atI_l5, atI_l6, atI_l7, atI_l8, atI_l9, atI_l10, atI_l11, atI_l12, lookup_hd, lookup_tl, putP_nil, putP_hd, putP_tl, List.lookup_nil, true_and, and_true, ↓reduceIte, if_true, if_false, exists_eq_left', exists_eq_left, Option.some.injEq, Sl.ins.injEq, Bool.false_xor, Bool.true_xor, beq_iff_eq, decide_eq_true_eq, Bool.not_true, Bool.not_false, Bool.false_eq_true, Nat.reduceLeDiff, Nat.reduceLT, Bool.not_eq_true', beq_eq_false_iff_ne, decide_eq_false_iff_not, reduceCtorEq, ne_eq, not_false_eq_true, not_true_eq_false, true_imp_iff, false_imp_iff, forall_const, beq_self_eq_true, Bool.and_self, isiInt, isiBool, isiStr, isiC, nfC, inL, startP, startI, setAll, List.map_cons, List.map_nil, List.length_cons, List.length_nil, List.cons_append, List.nil_append, List.append_nil, List.replicate, List.getElem?_cons_zero, List.getElem?_cons_succ, List.set_cons_zero, List.set_cons_succ, Nat.reduceSub, Nat.reduceAdd, List.getD_cons_zero]
    refine ⟨by decide, ?_⟩
    split
    · exact ⟨divR (by decide) (by decide), by decide, h _ (by omega) (by omega)⟩
    · exact ⟨by decide, h _ (by omega) (by omega)⟩

theorem ok_law_is_integer (T : Txt K mg a) (S : Fs K a d) : FnOk P w K mg base (L2.CX P w) 1 a.f_law_is_integer d.d_law_is_integer ["x"] (spP K (P_law_is_integer a)) := by
  refine fa_q (k := 0) S.F_law_is_integer sc_law_is_integer (len_law_is_integer a) (fun cdv A outer s H E hr =>
    (jss_one (js_ret (je_and (je_isiT (kit_int (os := []) (fun C h => nomatch h)) T.b_isinstance (je_var 0) T.b_int) (je_one (je_not (je_isiT (kit_bool (os := []) (fun C h => nomatch h)) T.b_isinstance (je_var 0) T.b_bool))))))) ?pure
  case pure =>
    rintro xs y Q ⟨i, rfl, h⟩
    simp (disch := decide) only [↓qVar_eq, ↓qC_eq, ↓qOp_eq, ↓qI_eq, ↓qI0_eq, ↓qEq_eq, ↓qIsN_eq, ↓qUn_eq, ↓qNeg_eq, ↓qB_eq, ↓qNotT_eq, ↓qAndT_eq, ↓qOrT_eq, ↓qAndV_eq, ↓qOrV_eq, ↓qNotV_eq, ↓qIf_eq, ↓qNil_eq, ↓qCons_eq, ↓qTup_eq, ↓qLst_eq, ↓qPart_eq, ↓qNoPart_eq, ↓qSl_eq, ↓qNext_eq, ↓qSeq_eq, ↓qBreak_eq, ↓qCont_eq, ↓qDrop_eq, ↓qRet_eq, ↓qRetN_eq, ↓qIfS_eq, ↓qNever_eq, ↓qSet_eq, ↓qOwn_eq, ↓qFreeze_eq, ↓qApp_eq, ↓qPar_eq, ↓qUnp_eq, ↓qUnpL_eq, ↓qFldS_eq, ↓qForL_eq, ↓qForT_eq, ↓qForR1_eq, ↓qForR2_eq, ↓qCall_eq, ↓qMake_eq, ↓qMeth_eq, ↓qProp_eq, ↓qCB_eq, ↓cAbs_eq, ↓cInt_eq, ↓cGcd_eq, ↓cLen_eq, ↓cLenS_eq, ↓qBits_eq, ↓qIsi_eq, ↓qBin_eq, ↓qUna_eq, ↓cAbsO_eq, ↓qEqO_eq, ↓qRaise_eq, ↓qTry_eq, ↓qXi_eq, ↓qLenO_eq, ↓qForR3_eq, ↓qIx_l, ↓qIx_t, ↓qFld_eq, ↓qXf_eq, ↓qSetIx_eq, ↓qIxO_eq, ↓qEqD_eq, ↓tryD_nx, ↓tryD_rt, ↓tryD_bk, ↓tryD_ct, ↓tryD_ex, ↓endsP_nx, ↓endsP_rt, ↓endsP_ex, ↓endsI_nx, ↓endsI_rt, ↓endsI_ex, ↓iAdd, ↓iSub, ↓iMul, ↓iDiv, ↓iMod, ↓iPow, ↓iLt, ↓iLe, ↓iGt, ↓iGe, atI_l0, atI_l1, atI_l2, atI_l3, atI_l4, atI_l5, atI_l6, atI_l7, atI_l8, atI_l9, atI_l10, atI_l11, atI_l12, lookup_hd, lookup_tl, putP_nil, putP_hd, putP_tl, List.lookup_nil, true_and, and_true, ↓reduceIte, if_true, if_false, exists_eq_left', exists_eq_left, Option.some.injEq, Sl.ins.injEq, Bool.false_xor, Bool.true_xor, beq_iff_eq, decide_eq_true_eq, Bool.not_true, Bool.not_false, Bool.false_eq_true, Nat.reduceLeDiff, Nat.reduceLT, Bool.not_eq_true', beq_eq_false_iff_ne, decide_eq_false_iff_not, reduceCtorEq, ne_eq, not_false_eq_true, not_true_eq_false, true_imp_iff, false_imp_iff, forall_const, beq_self_eq_true, Bool.and_self, isiInt, isiBool, isiStr, isiC, nfC, inL, startP, startI, setAll, List.map_cons, List.map_nil, List.length_cons, List.length_nil, List.cons_append, List.nil_append, List.append_nil, List.replicate, List.getElem?_cons_zero, List.getElem?_cons_succ, List.set_cons_zero, List.set_cons_succ, Nat.reduceSub, Nat.reduceAdd, List.getD_cons_zero]
    exact h

theorem ok_law_gcd (T : Txt K mg a) (S : Fs K a d) : FnOk P w K mg base (L2.CX P w) 1 a.f_law_gcd d.d_law_gcd ["a", "b"] (spP K (P_law_gcd a)) := by
  refine fa_q (k := 0) S.F_law_gcd sc_law_gcd (len_law_gcd a) (fun cdv A outer s H E hr =>
    (jss_cons (js_set 0 sc_law_gcd.nd (je_abs T.b_abs (ja_cons (je_var 0) ja_nil)))
      (jss_cons (js_set 1 sc_law_gcd.nd (je_abs T.b_abs (ja_cons (je_var 1) ja_nil)))
      (jss_cut (js_forR1 2 (passes_of rfl) rfl sc_law_gcd.nd T.b_range (ja_cons (je_add (je_mul je_int (je_bits (je_var 1))) je_int) ja_nil)
        (jss_cons (js_if (jt_eq (je_var 1) je_int) (jss_one (js_ret (je_var 0))) jss_nil)
      (jss_one (js_par 0 1 rfl sc_law_gcd.nd (by decide) (ja_cons (je_var 1) (ja_cons (je_mod (je_toint T.b_int (ja_cons (je_var 0) ja_nil)) (je_var 1)) ja_nil))))))
      (jss_one (js_ret (je_var 0))))))) ?pure
  case pure =>
    rintro xs y Q ⟨t, b, rfl, hs, h⟩
    simp (disch := decide) only [↓qVar_eq, ↓qC_eq, ↓qOp_eq, ↓qI_eq, ↓qI0_eq, ↓qEq_eq, ↓qIsN_eq, ↓qUn_eq, ↓qNeg_eq, ↓qB_eq, ↓qNotT_eq, ↓qAndT_eq, ↓qOrT_eq, ↓qAndV_eq, ↓qOrV_eq, ↓qNotV_eq, ↓qIf_eq, ↓qNil_eq, ↓qCons_eq, ↓qTup_eq, ↓qLst_eq, ↓qPart_eq, ↓qNoPart_eq, ↓qSl_eq, ↓qNext_eq, ↓qSeq_eq, ↓qBreak_eq, ↓qCont_eq, ↓qDrop_eq, ↓qRet_eq, ↓qRetN_eq, ↓qIfS_eq, ↓qNever_eq, ↓qSet_eq, ↓qOwn_eq, ↓qFreeze_eq, ↓qApp_eq, ↓qPar_eq, ↓qUnp_eq, ↓qUnpL_eq, ↓qFldS_eq, ↓qForL_eq, ↓qForT_eq, ↓qForR1_eq, ↓qForR2_eq, ↓qCall_eq, ↓qMake_eq, ↓qMeth_eq, ↓qProp_eq, ↓qCB_eq, ↓cAbs_eq, ↓cInt_eq, ↓cGcd_eq, ↓cLen_eq, ↓cLenS_eq, ↓qBits_eq, ↓qIsi_eq, ↓qBin_eq, ↓qUna_eq, ↓cAbsO_eq, ↓qEqO_eq, ↓qRaise_eq, ↓qTry_eq, ↓qXi_eq, ↓qLenO_eq, ↓qForR3_eq, ↓qIx_l, ↓qIx_t, ↓qFld_eq, ↓qXf_eq, ↓qSetIx_eq, ↓qIxO_eq, ↓qEqD_eq, ↓tryD_nx, ↓tryD_rt, ↓tryD_bk, ↓tryD_ct, ↓tryD_ex, ↓endsP_nx, ↓endsP_rt, ↓endsP_ex, ↓endsI_nx, ↓endsI_rt, ↓endsI_ex, ↓iAdd, ↓iSub, ↓iMul, ↓iDiv, ↓iMod, ↓iPow, ↓iLt, ↓iLe, ↓iGt, ↓iGe, atI_l0, atI_l1, atI_l2, atI_l3, atI_l4, atI_l5, atI_l6, atI_l7, atI_l8, atI_l9, atI_l10, atI_l11, atI_l12, lookup_hd, lookup_tl, putP_nil, putP_hd, putP_tl, List.lookup_nil, true_and, and_true, ↓reduceIte, if_true, if_false, exists_eq_left', exists_eq_left, Option.some.injEq, Sl.ins.injEq, Bool.false_xor, Bool.true_xor, beq_iff_eq, decide_eq_true_eq, Bool.not_true, Bool.not_false, Bool.false_eq_true, Nat.reduceLeDiff, Nat.reduceLT, Bool.not_eq_true', beq_eq_false_iff_ne, decide_eq_false_iff_not, reduceCtorEq, ne_eq, not_false_eq_true, not_true_eq_false, true_imp_iff, false_imp_iff, forall_const, beq_self_eq_true, Bool.and_self, isiInt, isiBool, isiStr, isiC, nfC, inL, startP, startI, setAll, List.map_cons, List.map_nil, List.length_cons, List.length_nil, List.cons_append, List.nil_append, List.append_nil, List.replicate, List.getElem?_cons_zero, List.getElem?_cons_succ, List.set_cons_zero, List.set_cons_succ, Nat.reduceSub, Nat.reduceAdd, List.getD_cons_zero]
    have ab : ∀ x : Int, (if x < 0 then -x else x) = ((x.natAbs : Nat) : Int) := fun x => by split <;> omega
    simp only [ab]
    have hB : Builtin.Int.intBits (b.natAbs : Int) ≤ 8000 := by
      unfold Builtin.Int.intBits
      split
      · omega
      · have := hs.log (by decide)
        simp only [Int.natAbs_natCast]
        omega
    have hb := bits_lt b.natAbs
    generalize hg : Builtin.Int.intBits (b.natAbs : Int) = B at *
    refine ⟨fun ρ => ∃ v w, ρ = [some (.pv (.int (gcdZ t b))), v, w], ?_, ?_⟩
    · simp (disch := decide) only [↓qVar_eq, ↓qC_eq, ↓qOp_eq, ↓qI_eq, ↓qI0_eq, ↓qEq_eq, ↓qIsN_eq, ↓qUn_eq, ↓qNeg_eq, ↓qB_eq, ↓qNotT_eq, ↓qAndT_eq, ↓qOrT_eq, ↓qAndV_eq, ↓qOrV_eq, ↓qNotV_eq, ↓qIf_eq, ↓qNil_eq, ↓qCons_eq, ↓qTup_eq, ↓qLst_eq, ↓qPart_eq, ↓qNoPart_eq, ↓qSl_eq, ↓qNext_eq, ↓qSeq_eq, ↓qBreak_eq, ↓qCont_eq, ↓qDrop_eq, ↓qRet_eq, ↓qRetN_eq, ↓qIfS_eq, ↓qNever_eq, ↓qSet_eq, ↓qOwn_eq, ↓qFreeze_eq, ↓qApp_eq, ↓qPar_eq, ↓qUnp_eq, ↓qUnpL_eq, ↓qFldS_eq, ↓qForL_eq, ↓qForT_eq, ↓qForR1_eq, ↓qForR2_eq, ↓qCall_eq, ↓qMake_eq, ↓qMeth_eq, ↓qProp_eq, ↓qCB_eq, ↓cAbs_eq, ↓cInt_eq, ↓cGcd_eq, ↓cLen_eq, ↓cLenS_eq, ↓qBits_eq, ↓qIsi_eq, ↓qBin_eq, ↓qUna_eq, ↓cAbsO_eq, ↓qEqO_eq, ↓qRaise_eq, ↓qTry_eq, ↓qXi_eq, ↓qLenO_eq, ↓qForR3_eq, ↓qIx_l, ↓qIx_t, ↓qFld_eq, ↓qXf_eq, ↓qSetIx_eq, ↓qIxO_eq, ↓qEqD_eq, ↓tryD_nx, ↓tryD_rt, ↓tryD_bk, ↓tryD_ct, ↓tryD_ex, ↓endsP_nx, ↓endsP_rt, ↓endsP_ex, ↓endsI_nx, ↓endsI_rt, ↓endsI_ex, ↓iAdd, ↓iSub, ↓iMul, ↓iDiv, ↓iMod, ↓iPow, ↓iLt, ↓iLe, ↓iGt, ↓iGe, atI_l0, atI_l1, atI_l2, atI_l3, atI_l4, atI_l5, atI_l6, atI_l7, atI_l8, atI_l9, atI_l10, atI_l11, atI_l12, lookup_hd, lookup_tl, putP_nil, putP_hd, putP_tl, List.lookup_nil, true_and, and_true, ↓reduceIte, if_true, if_false, exists_eq_left', exists_eq_left, Option.some.injEq, Sl.ins.injEq, Bool.false_xor, Bool.true_xor, beq_iff_eq, decide_eq_true_eq, Bool.not_true, Bool.not_false, Bool.false_eq_true, Nat.reduceLeDiff, Nat.reduceLT, Bool.not_eq_true', beq_eq_false_iff_ne, decide_eq_false_iff_not, reduceCtorEq, ne_eq, not_false_eq_true, not_true_eq_false, true_imp_iff, false_imp_iff, forall_const, beq_self_eq_true, Bool.and_self, isiInt, isiBool, isiStr, isiC, nfC, inL, startP, startI, setAll, List.map_cons, List.map_nil, List.length_cons, List.length_nil, List.cons_append, List.nil_append, List.append_nil, List.replicate, List.getElem?_cons_zero, List.getElem?_cons_succ, List.set_cons_zero, List.set_cons_succ, Nat.reduceSub, Nat.reduceAdd, List.getD_cons_zero, hg]
      refine ⟨mulL (by decide), by omega, by omega, ?_⟩
      rw [show (2 * (B : Int) + 2).toNat = 2 * B + 2 by omega]
      refine loop_at (fun k ρ => ∃ (m n : Nat) (v : Option Sl), Nat.gcd m n = Nat.gcd t.natAbs b.natAbs ∧ ρ = [some (.pv (.int m)), some (.pv (.int n)), v] ∧ match k with
        | 0 => n < 2 ^ B
        | k + 1 => n < m ∧ m * n * 2 ^ k < 2 ^ (2 * B)) ⟨t.natAbs, b.natAbs, none, rfl, rfl, hb⟩ ?_ ?_
      · rintro k x ρ N hx hN ⟨m, n, v, e, rfl, hI⟩
        simp (disch := decide) only [↓qVar_eq, ↓qC_eq, ↓qOp_eq, ↓qI_eq, ↓qI0_eq, ↓qEq_eq, ↓qIsN_eq, ↓qUn_eq, ↓qNeg_eq, ↓qB_eq, ↓qNotT_eq, ↓qAndT_eq, ↓qOrT_eq, ↓qAndV_eq, ↓qOrV_eq, ↓qNotV_eq, ↓qIf_eq, ↓qNil_eq, ↓qCons_eq, ↓qTup_eq, ↓qLst_eq, ↓qPart_eq, ↓qNoPart_eq, ↓qSl_eq, ↓qNext_eq, ↓qSeq_eq, ↓qBreak_eq, ↓qCont_eq, ↓qDrop_eq, ↓qRet_eq, ↓qRetN_eq, ↓qIfS_eq, ↓qNever_eq, ↓qSet_eq, ↓qOwn_eq, ↓qFreeze_eq, ↓qApp_eq, ↓qPar_eq, ↓qUnp_eq, ↓qUnpL_eq, ↓qFldS_eq, ↓qForL_eq, ↓qForT_eq, ↓qForR1_eq, ↓qForR2_eq, ↓qCall_eq, ↓qMake_eq, ↓qMeth_eq, ↓qProp_eq, ↓qCB_eq, ↓cAbs_eq, ↓cInt_eq, ↓cGcd_eq, ↓cLen_eq, ↓cLenS_eq, ↓qBits_eq, ↓qIsi_eq, ↓qBin_eq, ↓qUna_eq, ↓cAbsO_eq, ↓qEqO_eq, ↓qRaise_eq, ↓qTry_eq, ↓qXi_eq, ↓qLenO_eq, ↓qForR3_eq, ↓qIx_l, ↓qIx_t, ↓qFld_eq, ↓qXf_eq, ↓qSetIx_eq, ↓qIxO_eq, ↓qEqD_eq, ↓tryD_nx, ↓tryD_rt, ↓tryD_bk, ↓tryD_ct, ↓tryD_ex, ↓endsP_nx, ↓endsP_rt, ↓endsP_ex, ↓endsI_nx, ↓endsI_rt, ↓endsI_ex, ↓iAdd, ↓iSub, ↓iMul, ↓iDiv, ↓iMod, ↓iPow, ↓iLt, ↓iLe, ↓iGt, ↓iGe, atI_l0, atI_l1, atI_l2, atI_l3, atI_l4, atI_l5, atI_l6, atI_l7, atI_l8, atI_l9, atI_l10, atI_l11, atI_l12, lookup_hd, lookup_tl, putP_nil, putP_hd, putP_tl, List.lookup_nil, true_and, and_true, ↓reduceIte, if_true, if_false, exists_eq_left', exists_eq_left, Option.some.injEq, Sl.ins.injEq, Bool.false_xor, Bool.true_xor, beq_iff_eq, decide_eq_true_eq, Bool.not_true, Bool.not_false, Bool.false_eq_true, Nat.reduceLeDiff, Nat.reduceLT, Bool.not_eq_true', beq_eq_false_iff_ne, decide_eq_false_iff_not, reduceCtorEq, ne_eq, not_false_eq_true, not_true_eq_false, true_imp_iff, false_imp_iff, forall_const, beq_self_eq_true, Bool.and_self, isiInt, isiBool, isiStr, isiC, nfC, inL, startP, startI, setAll, List.map_cons, List.map_nil, List.length_cons, List.length_nil, List.cons_append, List.nil_append, List.append_nil, List.replicate, List.getElem?_cons_zero, List.getElem?_cons_succ, List.set_cons_zero, List.set_cons_succ, Nat.reduceSub, Nat.reduceAdd, List.getD_cons_zero]
        split
        · rename_i hz
          have hz : n = 0 := by omega
          subst hz
          rw [Nat.gcd_zero_right] at e
          rw [e]
          exact h
        · rename_i hz
          have hz : n ≠ 0 := by omega
          refine ⟨by omega, hN _ ⟨n, m % n, some (.pv x), ?_, rfl, ?_⟩⟩
          · cases k with
            | zero => exact (euc_first hz hI).2.2.trans e
            | succ k => exact (euc_step hI.1 hI.2 hz).2.2.trans e
          · cases k with
            | zero => exact ⟨(euc_first hz hI).1, (euc_first (b := B) hz hI).2.1⟩
            | succ k => exact ⟨(euc_step hI.1 hI.2 hz).1, (euc_step hI.1 hI.2 hz).2.1⟩
      · rintro ρ ⟨m, n, v, e, rfl, hI⟩
        rw [rangeP_len] at hI
        have hz := euc_end hI.1 hI.2
        subst hz
        rw [Nat.gcd_zero_right] at e
        exact ⟨_, _, by rw [e]; rfl⟩
    · rintro ρ' ⟨v, w, rfl⟩
      simp (disch := decide) only [↓qVar_eq, ↓qC_eq, ↓qOp_eq, ↓qI_eq, ↓qI0_eq, ↓qEq_eq, ↓qIsN_eq, ↓qUn_eq, ↓qNeg_eq, ↓qB_eq, ↓qNotT_eq, ↓qAndT_eq, ↓qOrT_eq, ↓qAndV_eq, ↓qOrV_eq, ↓qNotV_eq, ↓qIf_eq, ↓qNil_eq, ↓qCons_eq, ↓qTup_eq, ↓qLst_eq, ↓qPart_eq, ↓qNoPart_eq, ↓qSl_eq, ↓qNext_eq, ↓qSeq_eq, ↓qBreak_eq, ↓qCont_eq, ↓qDrop_eq, ↓qRet_eq, ↓qRetN_eq, ↓qIfS_eq, ↓qNever_eq, ↓qSet_eq, ↓qOwn_eq, ↓qFreeze_eq, ↓qApp_eq, ↓qPar_eq, ↓qUnp_eq, ↓qUnpL_eq, ↓qFldS_eq, ↓qForL_eq, ↓qForT_eq, ↓qForR1_eq, ↓qForR2_eq, ↓qCall_eq, ↓qMake_eq, ↓qMeth_eq, ↓qProp_eq, ↓qCB_eq, ↓cAbs_eq, ↓cInt_eq, ↓cGcd_eq, ↓cLen_eq, ↓cLenS_eq, ↓qBits_eq, ↓qIsi_eq, ↓qBin_eq, ↓qUna_eq, ↓cAbsO_eq, ↓qEqO_eq, ↓qRaise_eq, ↓qTry_eq, ↓qXi_eq, ↓qLenO_eq, ↓qForR3_eq, ↓qIx_l, ↓qIx_t, ↓qFld_eq, ↓qXf_eq, ↓qSetIx_eq, ↓qIxO_eq, ↓qEqD_eq, ↓tryD_nx, ↓tryD_rt, ↓tryD_bk, ↓tryD_ct, ↓tryD_ex, ↓endsP_nx, ↓endsP_rt, ↓endsP_ex, ↓endsI_nx, ↓endsI_rt, ↓endsI_ex, ↓iAdd, ↓iSub, ↓iMul, ↓iDiv, ↓iMod, ↓iPow, ↓iLt, ↓iLe, ↓iGt, ↓iGe, atI_l0, atI_l1, atI_l2, atI_l3, atI_l4, atI_l5, atI_l6, atI_l7, atI_l8, atI_l9, atI_l10, atI_l11, atI_l12, lookup_hd, lookup_tl, putP_nil, putP_hd, putP_tl, List.lookup_nil, true_and, and_true, ↓reduceIte, if_true, if_false, exists_eq_left', exists_eq_left, Option.some.injEq, Sl.ins.injEq, Bool.false_xor, Bool.true_xor, beq_iff_eq, decide_eq_true_eq, Bool.not_true, Bool.not_false, Bool.false_eq_true, Nat.reduceLeDiff, Nat.reduceLT, Bool.not_eq_true', beq_eq_false_iff_ne, decide_eq_false_iff_not, reduceCtorEq, ne_eq, not_false_eq_true, not_true_eq_false, true_imp_iff, false_imp_iff, forall_const, beq_self_eq_true, Bool.and_self, isiInt, isiBool, isiStr, isiC, nfC, inL, startP, startI, setAll, List.map_cons, List.map_nil, List.length_cons, List.length_nil, List.cons_append, List.nil_append, List.append_nil, List.replicate, List.getElem?_cons_zero, List.getElem?_cons_succ, List.set_cons_zero, List.set_cons_succ, Nat.reduceSub, Nat.reduceAdd, List.getD_cons_zero]
      exact h

theorem ok_law_ratio (T : Txt K mg a) (S : Fs K a d) : FnOk P w K mg base (L2.CX P w) 2 a.f_law_ratio d.d_law_ratio ["top", "bottom"] (spP K (P_law_ratio a)) := by
  refine fa_q (k := 1) S.F_law_ratio sc_law_ratio (len_law_ratio a) (fun cdv A outer s H E hr =>
    (jss_cons (js_set 2 sc_law_ratio.nd (je_call (ok_law_gcd T S) (hr.mono (by decide)) T.mg_law_gcd S.F_law_gcd.kp S.B_law_gcd .nil (fun _ => .nil) (tkOf (takes_of rfl rfl rfl rfl)) (ja_cons (je_var 0) (ja_cons (je_var 1) ja_nil))))
      (jss_cut (js_if (jt_lt (je_var 1) je_int) (jss_one (js_set 2 sc_law_ratio.nd (je_neg (je_var 2)))) jss_nil)
      (jss_one (js_ret (je_tup (ja_cons (je_div (je_var 0) (je_var 2)) (ja_cons (je_div (je_var 1) (je_var 2)) ja_nil)))))))) ?pure
  case pure =>
    rintro xs y Q ⟨t, b, rfl, hb, hs, h⟩
    simp (disch := decide) only [↓qVar_eq, ↓qC_eq, ↓qOp_eq, ↓qI_eq, ↓qI0_eq, ↓qEq_eq, ↓qIsN_eq, ↓qUn_eq, ↓qNeg_eq, ↓qB_eq, ↓qNotT_eq, ↓qAndT_eq, ↓qOrT_eq, ↓qAndV_eq, ↓qOrV_eq, ↓qNotV_eq, ↓qIf_eq, ↓qNil_eq, ↓qCons_eq, ↓qTup_eq, ↓qLst_eq, ↓qPart_eq, ↓qNoPart_eq, ↓qSl_eq, ↓qNext_eq, ↓qSeq_eq, ↓qBreak_eq, ↓qCont_eq, ↓qDrop_eq, ↓qRet_eq, ↓qRetN_eq, ↓qIfS_eq, ↓qNever_eq, ↓qSet_eq, ↓qOwn_eq, ↓qFreeze_eq, ↓qApp_eq, ↓qPar_eq, ↓qUnp_eq, ↓qUnpL_eq, ↓qFldS_eq, ↓qForL_eq, ↓qForT_eq, ↓qForR1_eq, ↓qForR2_eq, ↓qCall_eq, ↓qMake_eq, ↓qMeth_eq, ↓qProp_eq, ↓qCB_eq, ↓cAbs_eq, ↓cInt_eq, ↓cGcd_eq, ↓cLen_eq, ↓cLenS_eq, ↓qBits_eq, ↓qIsi_eq, ↓qBin_eq, ↓qUna_eq, ↓cAbsO_eq, ↓qEqO_eq, ↓qRaise_eq, ↓qTry_eq, ↓qXi_eq, ↓qLenO_eq, ↓qForR3_eq, ↓qIx_l, ↓qIx_t, ↓qFld_eq, ↓qXf_eq, ↓qSetIx_eq, ↓qIxO_eq, ↓qEqD_eq, ↓tryD_nx, ↓tryD_rt, ↓tryD_bk, ↓tryD_ct, ↓tryD_ex, ↓endsP_nx, ↓endsP_rt, ↓endsP_ex, ↓endsI_nx, ↓endsI_rt, ↓endsI_ex, ↓iAdd, ↓iSub, ↓iMul, ↓iDiv, ↓iMod, ↓iPow, ↓iLt, ↓iLe, ↓iGt, ↓iGe, atI_l0, atI_l1, atI_l2, atI_l3, atI_l4, atI_l5, atI_l6, atI_l7, atI_l8, atI_l9, atI_l10, atI_l11, atI_l12, lookup_hd, lookup_tl, putP_nil, putP_hd, putP_tl, List.lookup_nil, true_and, and_true, ↓reduceIte, if_true, if_false, exists_eq_left', exists_eq_left, Option.some.injEq, Sl.ins.injEq, Bool.false_xor, Bool.true_xor, beq_iff_eq, decide_eq_true_eq, Bool.not_true, Bool.not_false, Bool.false_eq_true, Nat.reduceLeDiff, Nat.reduceLT, Bool.not_eq_true', beq_eq_false_iff_ne, decide_eq_false_iff_not, reduceCtorEq, ne_eq, not_false_eq_true, not_true_eq_false, true_imp_iff, false_imp_iff, forall_const, beq_self_eq_true, Bool.and_self, isiInt, isiBool, isiStr, isiC, nfC, inL, startP, startI, setAll, List.map_cons, List.map_nil, List.length_cons, List.length_nil, List.cons_append, List.nil_append, List.append_nil, List.replicate, List.getElem?_cons_zero, List.getElem?_cons_succ, List.set_cons_zero, List.set_cons_succ, Nat.reduceSub, Nat.reduceAdd, List.getD_cons_zero, ↓i_gcd]
    refine ⟨hs, fun ρ => ρ = [some (.pv (.int t)), some (.pv (.int b)), some (.pv (.int (shared [t] b)))], ?_, ?_⟩
    · simp (disch := decide) only [↓qVar_eq, ↓qC_eq, ↓qOp_eq, ↓qI_eq, ↓qI0_eq, ↓qEq_eq, ↓qIsN_eq, ↓qUn_eq, ↓qNeg_eq, ↓qB_eq, ↓qNotT_eq, ↓qAndT_eq, ↓qOrT_eq, ↓qAndV_eq, ↓qOrV_eq, ↓qNotV_eq, ↓qIf_eq, ↓qNil_eq, ↓qCons_eq, ↓qTup_eq, ↓qLst_eq, ↓qPart_eq, ↓qNoPart_eq, ↓qSl_eq, ↓qNext_eq, ↓qSeq_eq, ↓qBreak_eq, ↓qCont_eq, ↓qDrop_eq, ↓qRet_eq, ↓qRetN_eq, ↓qIfS_eq, ↓qNever_eq, ↓qSet_eq, ↓qOwn_eq, ↓qFreeze_eq, ↓qApp_eq, ↓qPar_eq, ↓qUnp_eq, ↓qUnpL_eq, ↓qFldS_eq, ↓qForL_eq, ↓qForT_eq, ↓qForR1_eq, ↓qForR2_eq, ↓qCall_eq, ↓qMake_eq, ↓qMeth_eq, ↓qProp_eq, ↓qCB_eq, ↓cAbs_eq, ↓cInt_eq, ↓cGcd_eq, ↓cLen_eq, ↓cLenS_eq, ↓qBits_eq, ↓qIsi_eq, ↓qBin_eq, ↓qUna_eq, ↓cAbsO_eq, ↓qEqO_eq, ↓qRaise_eq, ↓qTry_eq, ↓qXi_eq, ↓qLenO_eq, ↓qForR3_eq, ↓qIx_l, ↓qIx_t, ↓qFld_eq, ↓qXf_eq, ↓qSetIx_eq, ↓qIxO_eq, ↓qEqD_eq, ↓tryD_nx, ↓tryD_rt, ↓tryD_bk, ↓tryD_ct, ↓tryD_ex, ↓endsP_nx, ↓endsP_rt, ↓endsP_ex, ↓endsI_nx, ↓endsI_rt, ↓endsI_ex, ↓iAdd, ↓iSub, ↓iMul, ↓iDiv, ↓iMod, ↓iPow, ↓iLt, ↓iLe, ↓iGt, ↓iGe, atI_l0, atI_l1, atI_l2, atI_l3, atI_l4, atI_l5, atI_l6, atI_l7, atI_l8, atI_l9, atI_l10, atI_l11, atI_l12, lookup_hd, lookup_tl, putP_nil, putP_hd, putP_tl, List.lookup_nil, true_and, and_true, ↓reduceIte, if_true, if_false, exists_eq_left', exists_eq_left, Option.some.injEq, Sl.ins.injEq, Bool.false_xor, Bool.true_xor, beq_iff_eq, decide_eq_true_eq, Bool.not_true, Bool.not_false, Bool.false_eq_true, Nat.reduceLeDiff, Nat.reduceLT, Bool.not_eq_true', beq_eq_false_iff_ne, decide_eq_false_iff_not, reduceCtorEq, ne_eq, not_false_eq_true, not_true_eq_false, true_imp_iff, false_imp_iff, forall_const, beq_self_eq_true, Bool.and_self, isiInt, isiBool, isiStr, isiC, nfC, inL, startP, startI, setAll, List.map_cons, List.map_nil, List.length_cons, List.length_nil, List.cons_append, List.nil_append, List.append_nil, List.replicate, List.getElem?_cons_zero, List.getElem?_cons_succ, List.set_cons_zero, List.set_cons_succ, Nat.reduceSub, Nat.reduceAdd, List.getD_cons_zero]
      split
      · rename_i hn
        show _ = _
        rw [shared1, if_neg (by omega)]
      · rename_i hn
        show _ = _
        rw [shared1, if_pos (by omega)]
    · rintro ρ' rfl
      simp (disch := decide) only [↓qVar_eq, ↓qC_eq, ↓qOp_eq, ↓qI_eq, ↓qI0_eq, ↓qEq_eq, ↓qIsN_eq, ↓qUn_eq, ↓qNeg_eq, ↓qB_eq, ↓qNotT_eq, ↓qAndT_eq, ↓qOrT_eq, ↓qAndV_eq, ↓qOrV_eq, ↓qNotV_eq, ↓qIf_eq, ↓qNil_eq, ↓qCons_eq, ↓qTup_eq, ↓qLst_eq, ↓qPart_eq, ↓qNoPart_eq, ↓qSl_eq, ↓qNext_eq, ↓qSeq_eq, ↓qBreak_eq, ↓qCont_eq, ↓qDrop_eq, ↓qRet_eq, ↓qRetN_eq, ↓qIfS_eq, ↓qNever_eq, ↓qSet_eq, ↓qOwn_eq, ↓qFreeze_eq, ↓qApp_eq, ↓qPar_eq, ↓qUnp_eq, ↓qUnpL_eq, ↓qFldS_eq, ↓qForL_eq, ↓qForT_eq, ↓qForR1_eq, ↓qForR2_eq, ↓qCall_eq, ↓qMake_eq, ↓qMeth_eq, ↓qProp_eq, ↓qCB_eq, ↓cAbs_eq, ↓cInt_eq, ↓cGcd_eq, ↓cLen_eq, ↓cLenS_eq, ↓qBits_eq, ↓qIsi_eq, ↓qBin_eq, ↓qUna_eq, ↓cAbsO_eq, ↓qEqO_eq, ↓qRaise_eq, ↓qTry_eq, ↓qXi_eq, ↓qLenO_eq, ↓qForR3_eq, ↓qIx_l, ↓qIx_t, ↓qFld_eq, ↓qXf_eq, ↓qSetIx_eq, ↓qIxO_eq, ↓qEqD_eq, ↓tryD_nx, ↓tryD_rt, ↓tryD_bk, ↓tryD_ct, ↓tryD_ex, ↓endsP_nx, ↓endsP_rt, ↓endsP_ex, ↓endsI_nx, ↓endsI_rt, ↓endsI_ex, ↓iAdd, ↓iSub, ↓iMul, ↓iDiv, ↓iMod, ↓iPow, ↓iLt, ↓iLe, ↓iGt, ↓iGe, atI_l0, atI_l1, atI_l2, atI_l3, atI_l4, atI_l5, atI_l6, atI_l7, atI_l8, atI_l9, atI_l10, atI_l11, atI_l12, lookup_hd, lookup_tl, putP_nil, putP_hd, putP_tl, List.lookup_nil, true_and, and_true, ↓reduceIte, if_true, if_false, exists_eq_left', exists_eq_left, Option.some.injEq, Sl.ins.injEq, Bool.false_xor, Bool.true_xor, beq_iff_eq, decide_eq_true_eq, Bool.not_true, Bool.not_false, Bool.false_eq_true, Nat.reduceLeDiff, Nat.reduceLT, Bool.not_eq_true', beq_eq_false_iff_ne, decide_eq_false_iff_not, reduceCtorEq, ne_eq, not_false_eq_true, not_true_eq_false, true_imp_iff, false_imp_iff, forall_const, beq_self_eq_true, Bool.and_self, isiInt, isiBool, isiStr, isiC, nfC, inL, startP, startI, setAll, List.map_cons, List.map_nil, List.length_cons, List.length_nil, List.cons_append, List.nil_append, List.append_nil, List.replicate, List.getElem?_cons_zero, List.getElem?_cons_succ, List.set_cons_zero, List.set_cons_succ, Nat.reduceSub, Nat.reduceAdd, List.getD_cons_zero]
      exact ⟨divW (sh_sz hs hb) (sh_ne hb) (by decide), divW (sh_sz hs hb) (sh_ne hb) (by decide), h⟩

theorem ok_law_numbers (T : Txt K mg a) (S : Fs K a d) : FnOk P w K mg base (L2.CX P w) 3 a.f_law_numbers d.d_law_numbers ["script"] (spP K (P_law_numbers a)) := by
  refine fa_q (k := 2) S.F_law_numbers sc_law_numbers (len_law_numbers a) (fun cdv A outer s H E hr =>
    (jss_cons (js_set 1 sc_law_numbers.nd (je_call (ok_law_draws T S) (hr.mono (by decide)) T.mg_law_draws S.F_law_draws.kp S.B_law_draws .nil (fun _ => .nil) (tkOf (takes_of rfl rfl rfl rfl)) (ja_cons (je_var 0) (ja_cons je_int (ja_cons je_int ja_nil)))))
      (jss_cons (js_set 2 sc_law_numbers.nd (je_mod (je_toint T.b_int (ja_cons (je_ix (je_var 1) je_int) ja_nil)) je_int))
      (jss_cons (js_set 3 sc_law_numbers.nd (je_pow (je_pow je_int je_int) je_int))
      (jss_cut (js_if (jt_w (jw_or (jt_eq (je_var 2) je_int) (jw_or1 (jt_eq (je_var 2) je_int)))) (jss_one (js_set 3 sc_law_numbers.nd (je_pow (je_pow je_int je_int) je_int))) jss_nil)
      (jss_cons (js_own 4 sc_law_numbers.nd ja_nil)
      (jss_cut (js_forR1 5 (passes_of rfl) rfl sc_law_numbers.nd T.b_range (ja_cons je_int ja_nil)
        (jss_cons (js_set 6 sc_law_numbers.nd (je_call (ok_law_small T S) (hr.mono (by decide)) T.mg_law_small S.F_law_small.kp S.B_law_small .nil (fun _ => .nil) (tkOf (takes_of rfl rfl rfl rfl)) (ja_cons (je_ix (je_call (ok_law_draws T S) (hr.mono (by decide)) T.mg_law_draws S.F_law_draws.kp S.B_law_draws .nil (fun _ => .nil) (tkOf (takes_of rfl rfl rfl rfl)) (ja_cons (je_var 0) (ja_cons (je_var 5) (ja_cons je_int ja_nil)))) je_int) ja_nil)))
      (jss_cut (js_if (jt_eq (je_mod (je_toint T.b_int (ja_cons (je_ix (je_var 1) je_int) ja_nil)) je_int) je_int) (jss_cons (js_set 6 sc_law_numbers.nd (je_mod (je_toint T.b_int (ja_cons (je_call (ok_law_cell T S) (hr.mono (by decide)) T.mg_law_cell S.F_law_cell.kp S.B_law_cell .nil (fun _ => .nil) (tkOf (takes_of rfl rfl rfl rfl)) (ja_cons (je_var 0) (ja_cons (je_var 5) ja_nil))) ja_nil)) (je_var 3)))
      (jss_one (js_if (jt_eq (je_mod (je_toint T.b_int (ja_cons (je_ix (je_var 1) (je_add je_int (je_var 5))) ja_nil)) je_int) je_int) (jss_one (js_set 6 sc_law_numbers.nd (je_neg (je_var 6)))) jss_nil))) jss_nil)
      (jss_one (js_app 4 (je_var 6) (hpe := pe_bm PySem.F.plainAttrs_list PySem.F.slot_list_append PySem.F.type_list_append mt_append (pv 4) (pa_cons (je_var 6) pa_nil)))))))
      (jss_cut (js_if (jt_eq (je_var 2) je_int) (jss_one (js_setix 4 je_int (je_mul (je_mod (je_toint T.b_int (ja_cons (je_ix (je_var 1) je_int) ja_nil)) je_int) je_int))) jss_nil)
      (jss_cut (js_forR3 5 (passes_of rfl) rfl sc_law_numbers.nd T.b_range (ja_cons je_int (ja_cons je_int (ja_cons je_int ja_nil)))
        (jss_one (js_if (jt_eq (je_ixO 4 (je_var 5)) je_int) (jss_one (js_setix 4 je_int (je_var 5))) jss_nil)))
      (jss_cut (js_if (jt_eq (je_var 2) je_int) (jss_cons (js_set 7 sc_law_numbers.nd (je_sub (je_mod (je_toint T.b_int (ja_cons (je_ix (je_var 1) je_int) ja_nil)) je_int) je_int))
      (jss_cut (js_if (jt_eq (je_var 7) je_int) (jss_one (js_set 7 sc_law_numbers.nd je_int)) jss_nil)
      (jss_cons (js_setix 4 (je_mul (je_ixO 4 je_int) (je_var 7)) je_int)
      (jss_one (js_setix 4 (je_mul (je_ixO 4 je_int) (je_var 7)) je_int))))) jss_nil)
      (jss_cut (js_if (jt_eq (je_var 2) je_int) (jss_cons (js_setix 4 (je_add (je_ixO 4 je_int) je_int) je_int)
      (jss_one (js_setix 4 (je_ixO 4 je_int) je_int))) jss_nil)
      (jss_freeze 4 (jss_one (js_ret (je_var 4))))))))))))))) ?pure
  case pure =>
    rintro xs y Q ⟨ns, rfl, hn, h⟩
    refine ⟨ns, 4, 8, rfl, by decide, hn, by decide, by decide, fun rs hl hr => ?_⟩
    match rs, hl with
    | [r0, r1, r2, r3, r4, r5, r6, r7], _ =>
    simp (disch := decide) only [↓qVar_eq, ↓qC_eq, ↓qOp_eq, ↓qI_eq, ↓qI0_eq, ↓qEq_eq, ↓qIsN_eq, ↓qUn_eq, ↓qNeg_eq, ↓qB_eq, ↓qNotT_eq, ↓qAndT_eq, ↓qOrT_eq, ↓qAndV_eq, ↓qOrV_eq, ↓qNotV_eq, ↓qIf_eq, ↓qNil_eq, ↓qCons_eq, ↓qTup_eq, ↓qLst_eq, ↓qPart_eq, ↓qNoPart_eq, ↓qSl_eq, ↓qNext_eq, ↓qSeq_eq, ↓qBreak_eq, ↓qCont_eq, ↓qDrop_eq, ↓qRet_eq, ↓qRetN_eq, ↓qIfS_eq, ↓qNever_eq, ↓qSet_eq, ↓qOwn_eq, ↓qFreeze_eq, ↓qApp_eq, ↓qPar_eq, ↓qUnp_eq, ↓qUnpL_eq, ↓qFldS_eq, ↓qForL_eq, ↓qForT_eq, ↓qForR1_eq, ↓qForR2_eq, ↓qCall_eq, ↓qMake_eq, ↓qMeth_eq, ↓qProp_eq, ↓qCB_eq, ↓cAbs_eq, ↓cInt_eq, ↓cGcd_eq, ↓cLen_eq, ↓cLenS_eq, ↓qBits_eq, ↓qIsi_eq, ↓qBin_eq, ↓qUna_eq, ↓cAbsO_eq, ↓qEqO_eq, ↓qRaise_eq, ↓qTry_eq, ↓qXi_eq, ↓qLenO_eq, ↓qForR3_eq, ↓qIx_l, ↓qIx_t, ↓qFld_eq, ↓qXf_eq, ↓qSetIx_eq, ↓qIxO_eq, ↓qEqD_eq, ↓tryD_nx, ↓tryD_rt, ↓tryD_bk, ↓tryD_ct, ↓tryD_ex, ↓endsP_nx, ↓endsP_rt, ↓endsP_ex, ↓endsI_nx, ↓endsI_rt, ↓endsI_ex, ↓iAdd, ↓iSub, ↓iMul, ↓iDiv, ↓iMod, ↓iPow, ↓iLt, ↓iLe, ↓iGt, ↓iGe, atI_l0, atI_l1, atI_l2, atI_l3, atI_l4, atI_l5, atI_l6, atI_l7, atI_l8, atI_l9, atI_l10, atI_l11, atI_l12, lookup_hd, lookup_tl, putP_nil, putP_hd, putP_tl, List.lookup_nil, true_and, and_true, ↓reduceIte, if_true, if_false, exists_eq_left', exists_eq_left, Option.some.injEq, Sl.ins.injEq, Bool.false_xor, Bool.true_xor, beq_iff_eq, decide_eq_true_eq, Bool.not_true, Bool.not_false, Bool.false_eq_true, Nat.reduceLeDiff, Nat.reduceLT, Bool.not_eq_true', beq_eq_false_iff_ne, decide_eq_false_iff_not, reduceCtorEq, ne_eq, not_false_eq_true, not_true_eq_false, true_imp_iff, false_imp_iff, forall_const, beq_self_eq_true, Bool.and_self, isiInt, isiBool, isiStr, isiC, nfC, inL, startP, startI, setAll, List.map_cons, List.map_nil, List.length_cons, List.length_nil, List.cons_append, List.nil_append, List.append_nil, List.replicate, List.getElem?_cons_zero, List.getElem?_cons_succ, List.set_cons_zero, List.set_cons_succ, Nat.reduceSub, Nat.reduceAdd, List.getD_cons_zero, lstI]
    refine ⟨by decide, powC, ⟨by decide, by decide +kernel⟩, ?_⟩
    generalize r0 % 8 = kind
    generalize hL : ((10 : Int) ^ Int.toNat 50) ^ Int.toNat 20 = L0
    have hL0 : 0 < L0 ∧ Sz 3330 L0 := by rw [← hL]; exact ⟨by decide +kernel, by unfold Sz; decide +kernel⟩
    clear hL
    have hL1 : 0 < ((10 : Int) ^ Int.toNat 50) ^ Int.toNat 18 ∧ Sz 3330 (((10 : Int) ^ Int.toNat 50) ^ Int.toNat 18) := ⟨by decide +kernel, by unfold Sz; decide +kernel⟩
    refine ⟨fun ρ => ∃ L : Int, 0 < L ∧ Sz 3330 L ∧ ρ = [some (.pv (lstI ns)), some (.pv (lstI [r0, r1, r2, r3, r4, r5, r6, r7])), some (.pv (.int kind)), some (.pv (.int L)), none, none, none, none], ?_, ?_⟩
    · simp (disch := decide) only [↓qVar_eq, ↓qC_eq, ↓qOp_eq, ↓qI_eq, ↓qI0_eq, ↓qEq_eq, ↓qIsN_eq, ↓qUn_eq, ↓qNeg_eq, ↓qB_eq, ↓qNotT_eq, ↓qAndT_eq, ↓qOrT_eq, ↓qAndV_eq, ↓qOrV_eq, ↓qNotV_eq, ↓qIf_eq, ↓qNil_eq, ↓qCons_eq, ↓qTup_eq, ↓qLst_eq, ↓qPart_eq, ↓qNoPart_eq, ↓qSl_eq, ↓qNext_eq, ↓qSeq_eq, ↓qBreak_eq, ↓qCont_eq, ↓qDrop_eq, ↓qRet_eq, ↓qRetN_eq, ↓qIfS_eq, ↓qNever_eq, ↓qSet_eq, ↓qOwn_eq, ↓qFreeze_eq, ↓qApp_eq, ↓qPar_eq, ↓qUnp_eq, ↓qUnpL_eq, ↓qFldS_eq, ↓qForL_eq, ↓qForT_eq, ↓qForR1_eq, ↓qForR2_eq, ↓qCall_eq, ↓qMake_eq, ↓qMeth_eq, ↓qProp_eq, ↓qCB_eq, ↓cAbs_eq, ↓cInt_eq, ↓cGcd_eq, ↓cLen_eq, ↓cLenS_eq, ↓qBits_eq, ↓qIsi_eq, ↓qBin_eq, ↓qUna_eq, ↓cAbsO_eq, ↓qEqO_eq, ↓qRaise_eq, ↓qTry_eq, ↓qXi_eq, ↓qLenO_eq, ↓qForR3_eq, ↓qIx_l, ↓qIx_t, ↓qFld_eq, ↓qXf_eq, ↓qSetIx_eq, ↓qIxO_eq, ↓qEqD_eq, ↓tryD_nx, ↓tryD_rt, ↓tryD_bk, ↓tryD_ct, ↓tryD_ex, ↓endsP_nx, ↓endsP_rt, ↓endsP_ex, ↓endsI_nx, ↓endsI_rt, ↓endsI_ex, ↓iAdd, ↓iSub, ↓iMul, ↓iDiv, ↓iMod, ↓iPow, ↓iLt, ↓iLe, ↓iGt, ↓iGe, atI_l0, atI_l1, atI_l2, atI_l3, atI_l4, atI_l5, atI_l6, atI_l7, atI_l8, atI_l9, atI_l10, atI_l11, atI_l12, lookup_hd, lookup_tl, putP_nil, putP_hd, putP_tl, List.lookup_nil, true_and, and_true, ↓reduceIte, if_true, if_false, exists_eq_left', exists_eq_left, Option.some.injEq, Sl.ins.injEq, Bool.false_xor, Bool.true_xor, beq_iff_eq, decide_eq_true_eq, Bool.not_true, Bool.not_false, Bool.false_eq_true, Nat.reduceLeDiff, Nat.reduceLT, Bool.not_eq_true', beq_eq_false_iff_ne, decide_eq_false_iff_not, reduceCtorEq, ne_eq, not_false_eq_true, not_true_eq_false, true_imp_iff, false_imp_iff, forall_const, beq_self_eq_true, Bool.and_self, isiInt, isiBool, isiStr, isiC, nfC, inL, startP, startI, setAll, List.map_cons, List.map_nil, List.length_cons, List.length_nil, List.cons_append, List.nil_append, List.append_nil, List.replicate, List.getElem?_cons_zero, List.getElem?_cons_succ, List.set_cons_zero, List.set_cons_succ, Nat.reduceSub, Nat.reduceAdd, List.getD_cons_zero]
      split
      · exact ⟨powC, ⟨by decide, by decide +kernel⟩, _, hL1.1, hL1.2, rfl⟩
      · split
        · exact ⟨powC, ⟨by decide, by decide +kernel⟩, _, hL1.1, hL1.2, rfl⟩
        · exact ⟨_, hL0.1, hL0.2, rfl⟩
    rintro ρ' ⟨L, hL, sL, rfl⟩
    simp (disch := decide) only [↓qVar_eq, ↓qC_eq, ↓qOp_eq, ↓qI_eq, ↓qI0_eq, ↓qEq_eq, ↓qIsN_eq, ↓qUn_eq, ↓qNeg_eq, ↓qB_eq, ↓qNotT_eq, ↓qAndT_eq, ↓qOrT_eq, ↓qAndV_eq, ↓qOrV_eq, ↓qNotV_eq, ↓qIf_eq, ↓qNil_eq, ↓qCons_eq, ↓qTup_eq, ↓qLst_eq, ↓qPart_eq, ↓qNoPart_eq, ↓qSl_eq, ↓qNext_eq, ↓qSeq_eq, ↓qBreak_eq, ↓qCont_eq, ↓qDrop_eq, ↓qRet_eq, ↓qRetN_eq, ↓qIfS_eq, ↓qNever_eq, ↓qSet_eq, ↓qOwn_eq, ↓qFreeze_eq, ↓qApp_eq, ↓qPar_eq, ↓qUnp_eq, ↓qUnpL_eq, ↓qFldS_eq, ↓qForL_eq, ↓qForT_eq, ↓qForR1_eq, ↓qForR2_eq, ↓qCall_eq, ↓qMake_eq, ↓qMeth_eq, ↓qProp_eq, ↓qCB_eq, ↓cAbs_eq, ↓cInt_eq, ↓cGcd_eq, ↓cLen_eq, ↓cLenS_eq, ↓qBits_eq, ↓qIsi_eq, ↓qBin_eq, ↓qUna_eq, ↓cAbsO_eq, ↓qEqO_eq, ↓qRaise_eq, ↓qTry_eq, ↓qXi_eq, ↓qLenO_eq, ↓qForR3_eq, ↓qIx_l, ↓qIx_t, ↓qFld_eq, ↓qXf_eq, ↓qSetIx_eq, ↓qIxO_eq, ↓qEqD_eq, ↓tryD_nx, ↓tryD_rt, ↓tryD_bk, ↓tryD_ct, ↓tryD_ex, ↓endsP_nx, ↓endsP_rt, ↓endsP_ex, ↓endsI_nx, ↓endsI_rt, ↓endsI_ex, ↓iAdd, ↓iSub, ↓iMul, ↓iDiv, ↓iMod, ↓iPow, ↓iLt, ↓iLe, ↓iGt, ↓iGe, atI_l0, atI_l1, atI_l2, atI_l3, atI_l4, atI_l5, atI_l6, atI_l7, atI_l8, atI_l9, atI_l10, atI_l11, atI_l12, lookup_hd, lookup_tl, putP_nil, putP_hd, putP_tl, List.lookup_nil, true_and, and_true, ↓reduceIte, if_true, if_false, exists_eq_left', exists_eq_left, Option.some.injEq, Sl.ins.injEq, Bool.false_xor, Bool.true_xor, beq_iff_eq, decide_eq_true_eq, Bool.not_true, Bool.not_false, Bool.false_eq_true, Nat.reduceLeDiff, Nat.reduceLT, Bool.not_eq_true', beq_eq_false_iff_ne, decide_eq_false_iff_not, reduceCtorEq, ne_eq, not_false_eq_true, not_true_eq_false, true_imp_iff, false_imp_iff, forall_const, beq_self_eq_true, Bool.and_self, isiInt, isiBool, isiStr, isiC, nfC, inL, startP, startI, setAll, List.map_cons, List.map_nil, List.length_cons, List.length_nil, List.cons_append, List.nil_append, List.append_nil, List.replicate, List.getElem?_cons_zero, List.getElem?_cons_succ, List.set_cons_zero, List.set_cons_succ, Nat.reduceSub, Nat.reduceAdd, List.getD_cons_zero]
    refine ⟨fun ρ => ∃ (ms : List Int) (v w : Option Sl), ms.length = 4 ∧ (∀ m ∈ ms, Sz 3340 m) ∧ ρ = [some (.pv (lstI ns)), some (.pv (lstI [r0, r1, r2, r3, r4, r5, r6, r7])), some (.pv (.int kind)), some (.pv (.int L)), some (.own (ms.map PV.int)), v, w, none], ?_, ?_⟩
    · simp (disch := decide) only [↓qVar_eq, ↓qC_eq, ↓qOp_eq, ↓qI_eq, ↓qI0_eq, ↓qEq_eq, ↓qIsN_eq, ↓qUn_eq, ↓qNeg_eq, ↓qB_eq, ↓qNotT_eq, ↓qAndT_eq, ↓qOrT_eq, ↓qAndV_eq, ↓qOrV_eq, ↓qNotV_eq, ↓qIf_eq, ↓qNil_eq, ↓qCons_eq, ↓qTup_eq, ↓qLst_eq, ↓qPart_eq, ↓qNoPart_eq, ↓qSl_eq, ↓qNext_eq, ↓qSeq_eq, ↓qBreak_eq, ↓qCont_eq, ↓qDrop_eq, ↓qRet_eq, ↓qRetN_eq, ↓qIfS_eq, ↓qNever_eq, ↓qSet_eq, ↓qOwn_eq, ↓qFreeze_eq, ↓qApp_eq, ↓qPar_eq, ↓qUnp_eq, ↓qUnpL_eq, ↓qFldS_eq, ↓qForL_eq, ↓qForT_eq, ↓qForR1_eq, ↓qForR2_eq, ↓qCall_eq, ↓qMake_eq, ↓qMeth_eq, ↓qProp_eq, ↓qCB_eq, ↓cAbs_eq, ↓cInt_eq, ↓cGcd_eq, ↓cLen_eq, ↓cLenS_eq, ↓qBits_eq, ↓qIsi_eq, ↓qBin_eq, ↓qUna_eq, ↓cAbsO_eq, ↓qEqO_eq, ↓qRaise_eq, ↓qTry_eq, ↓qXi_eq, ↓qLenO_eq, ↓qForR3_eq, ↓qIx_l, ↓qIx_t, ↓qFld_eq, ↓qXf_eq, ↓qSetIx_eq, ↓qIxO_eq, ↓qEqD_eq, ↓tryD_nx, ↓tryD_rt, ↓tryD_bk, ↓tryD_ct, ↓tryD_ex, ↓endsP_nx, ↓endsP_rt, ↓endsP_ex, ↓endsI_nx, ↓endsI_rt, ↓endsI_ex, ↓iAdd, ↓iSub, ↓iMul, ↓iDiv, ↓iMod, ↓iPow, ↓iLt, ↓iLe, ↓iGt, ↓iGe, atI_l0, atI_l1, atI_l2, atI_l3, atI_l4, atI_l5, atI_l6, atI_l7, atI_l8, atI_l9, atI_l10, atI_l11, atI_l12, lookup_hd, lookup_tl, putP_nil, putP_hd, putP_tl, List.lookup_nil, true_and, and_true, ↓reduceIte, if_true, if_false, exists_eq_left', exists_eq_left, Option.some.injEq, Sl.ins.injEq, Bool.false_xor, Bool.true_xor, beq_iff_eq, decide_eq_true_eq, Bool.not_true, Bool.not_false, Bool.false_eq_true, Nat.reduceLeDiff, Nat.reduceLT, Bool.not_eq_true', beq_eq_false_iff_ne, decide_eq_false_iff_not, reduceCtorEq, ne_eq, not_false_eq_true, not_true_eq_false, true_imp_iff, false_imp_iff, forall_const, beq_self_eq_true, Bool.and_self, isiInt, isiBool, isiStr, isiC, nfC, inL, startP, startI, setAll, List.map_cons, List.map_nil, List.length_cons, List.length_nil, List.cons_append, List.nil_append, List.append_nil, List.replicate, List.getElem?_cons_zero, List.getElem?_cons_succ, List.set_cons_zero, List.set_cons_succ, Nat.reduceSub, Nat.reduceAdd, List.getD_cons_zero]
      refine ⟨by decide, by decide, ?_⟩
      refine loop_at (fun j ρ => ∃ (ms : List Int) (v w : Option Sl), ms.length = j ∧ (∀ m ∈ ms, Sz 3340 m) ∧ ρ = [some (.pv (lstI ns)), some (.pv (lstI [r0, r1, r2, r3, r4, r5, r6, r7])), some (.pv (.int kind)), some (.pv (.int L)), some (.own (ms.map PV.int)), v, w, none]) ⟨[], none, none, rfl, (fun _ z => nomatch z), rfl⟩ ?_ ?_
      · rintro j x ρ N hx hN ⟨ms, v, w, h1, h2, rfl⟩
        obtain ⟨hj, rfl⟩ := rangeP_at hx
        have hj : j < 4 := hj
        refine ⟨ns, 0 + (j : Int), 1, rfl, by omega, hn, by decide, by decide, fun rs hl hr => ?_⟩
        match rs, hl with
        | [d0], _ =>
        obtain ⟨z, hz⟩ := atI_ints (ns := [r0, r1, r2, r3, r4, r5, r6, r7]) (k := 2 + (0 + (j : Int))) (by omega) (by show _ < (8 : Int); omega)
        have hz : atI [PV.int r0, PV.int r1, PV.int r2, PV.int r3, PV.int r4, PV.int r5, PV.int r6, PV.int r7] (2 + (0 + (j : Int))) = some (.int z) := hz
        simp (disch := decide) only [↓qVar_eq, ↓qC_eq, ↓qOp_eq, ↓qI_eq, ↓qI0_eq, ↓qEq_eq, ↓qIsN_eq, ↓qUn_eq, ↓qNeg_eq, ↓qB_eq, ↓qNotT_eq, ↓qAndT_eq, ↓qOrT_eq, ↓qAndV_eq, ↓qOrV_eq, ↓qNotV_eq, ↓qIf_eq, ↓qNil_eq, ↓qCons_eq, ↓qTup_eq, ↓qLst_eq, ↓qPart_eq, ↓qNoPart_eq, ↓qSl_eq, ↓qNext_eq, ↓qSeq_eq, ↓qBreak_eq, ↓qCont_eq, ↓qDrop_eq, ↓qRet_eq, ↓qRetN_eq, ↓qIfS_eq, ↓qNever_eq, ↓qSet_eq, ↓qOwn_eq, ↓qFreeze_eq, ↓qApp_eq, ↓qPar_eq, ↓qUnp_eq, ↓qUnpL_eq, ↓qFldS_eq, ↓qForL_eq, ↓qForT_eq, ↓qForR1_eq, ↓qForR2_eq, ↓qCall_eq, ↓qMake_eq, ↓qMeth_eq, ↓qProp_eq, ↓qCB_eq, ↓cAbs_eq, ↓cInt_eq, ↓cGcd_eq, ↓cLen_eq, ↓cLenS_eq, ↓qBits_eq, ↓qIsi_eq, ↓qBin_eq, ↓qUna_eq, ↓cAbsO_eq, ↓qEqO_eq, ↓qRaise_eq, ↓qTry_eq, ↓qXi_eq, ↓qLenO_eq, ↓qForR3_eq, ↓qIx_l, ↓qIx_t, ↓qFld_eq, ↓qXf_eq, ↓qSetIx_eq, ↓qIxO_eq, ↓qEqD_eq, ↓tryD_nx, ↓tryD_rt, ↓tryD_bk, ↓tryD_ct, ↓tryD_ex, ↓endsP_nx, ↓endsP_rt, ↓endsP_ex, ↓endsI_nx, ↓endsI_rt, ↓endsI_ex, ↓iAdd, ↓iSub, ↓iMul, ↓iDiv, ↓iMod, ↓iPow, ↓iLt, ↓iLe, ↓iGt, ↓iGe, atI_l0, atI_l1, atI_l2, atI_l3, atI_l4, atI_l5, atI_l6, atI_l7, atI_l8, atI_l9, atI_l10, atI_l11, atI_l12, lookup_hd, lookup_tl, putP_nil, putP_hd, putP_tl, List.lookup_nil, true_and, and_true, ↓reduceIte, if_true, if_false, exists_eq_left', exists_eq_left, Option.some.injEq, Sl.ins.injEq, Bool.false_xor, Bool.true_xor, beq_iff_eq, decide_eq_true_eq, Bool.not_true, Bool.not_false, Bool.false_eq_true, Nat.reduceLeDiff, Nat.reduceLT, Bool.not_eq_true', beq_eq_false_iff_ne, decide_eq_false_iff_not, reduceCtorEq, ne_eq, not_false_eq_true, not_true_eq_false, true_imp_iff, false_imp_iff, forall_const, beq_self_eq_true, Bool.and_self, isiInt, isiBool, isiStr, isiC, nfC, inL, startP, startI, setAll, List.map_cons, List.map_nil, List.length_cons, List.length_nil, List.cons_append, List.nil_append, List.append_nil, List.replicate, List.getElem?_cons_zero, List.getElem?_cons_succ, List.set_cons_zero, List.set_cons_succ, Nat.reduceSub, Nat.reduceAdd, List.getD_cons_zero, lstI, ↓i_small]
        intro r ra rb
        refine ⟨fun ρ => ∃ m : Int, Sz 3340 m ∧ ρ = [some (.pv (lstI ns)), some (.pv (lstI [r0, r1, r2, r3, r4, r5, r6, r7])), some (.pv (.int kind)), some (.pv (.int L)), some (.own (ms.map PV.int)), some (.pv (.int (0 + (j : Int)))), some (.pv (.int m)), none], ?_, ?_⟩
        · simp (disch := decide) only [↓qVar_eq, ↓qC_eq, ↓qOp_eq, ↓qI_eq, ↓qI0_eq, ↓qEq_eq, ↓qIsN_eq, ↓qUn_eq, ↓qNeg_eq, ↓qB_eq, ↓qNotT_eq, ↓qAndT_eq, ↓qOrT_eq, ↓qAndV_eq, ↓qOrV_eq, ↓qNotV_eq, ↓qIf_eq, ↓qNil_eq, ↓qCons_eq, ↓qTup_eq, ↓qLst_eq, ↓qPart_eq, ↓qNoPart_eq, ↓qSl_eq, ↓qNext_eq, ↓qSeq_eq, ↓qBreak_eq, ↓qCont_eq, ↓qDrop_eq, ↓qRet_eq, ↓qRetN_eq, ↓qIfS_eq, ↓qNever_eq, ↓qSet_eq, ↓qOwn_eq, ↓qFreeze_eq, ↓qApp_eq, ↓qPar_eq, ↓qUnp_eq, ↓qUnpL_eq, ↓qFldS_eq, ↓qForL_eq, ↓qForT_eq, ↓qForR1_eq, ↓qForR2_eq, ↓qCall_eq, ↓qMake_eq, ↓qMeth_eq, ↓qProp_eq, ↓qCB_eq, ↓cAbs_eq, ↓cInt_eq, ↓cGcd_eq, ↓cLen_eq, ↓cLenS_eq, ↓qBits_eq, ↓qIsi_eq, ↓qBin_eq, ↓qUna_eq, ↓cAbsO_eq, ↓qEqO_eq, ↓qRaise_eq, ↓qTry_eq, ↓qXi_eq, ↓qLenO_eq, ↓qForR3_eq, ↓qIx_l, ↓qIx_t, ↓qFld_eq, ↓qXf_eq, ↓qSetIx_eq, ↓qIxO_eq, ↓qEqD_eq, ↓tryD_nx, ↓tryD_rt, ↓tryD_bk, ↓tryD_ct, ↓tryD_ex, ↓endsP_nx, ↓endsP_rt, ↓endsP_ex, ↓endsI_nx, ↓endsI_rt, ↓endsI_ex, ↓iAdd, ↓iSub, ↓iMul, ↓iDiv, ↓iMod, ↓iPow, ↓iLt, ↓iLe, ↓iGt, ↓iGe, atI_l0, atI_l1, atI_l2, atI_l3, atI_l4, atI_l5, atI_l6, atI_l7, atI_l8, atI_l9, atI_l10, atI_l11, atI_l12, lookup_hd, lookup_tl, putP_nil, putP_hd, putP_tl, List.lookup_nil, true_and, and_true, ↓reduceIte, if_true, if_false, exists_eq_left', exists_eq_left, Option.some.injEq, Sl.ins.injEq, Bool.false_xor, Bool.true_xor, beq_iff_eq, decide_eq_true_eq, Bool.not_true, Bool.not_false, Bool.false_eq_true, Nat.reduceLeDiff, Nat.reduceLT, Bool.not_eq_true', beq_eq_false_iff_ne, decide_eq_false_iff_not, reduceCtorEq, ne_eq, not_false_eq_true, not_true_eq_false, true_imp_iff, false_imp_iff, forall_const, beq_self_eq_true, Bool.and_self, isiInt, isiBool, isiStr, isiC, nfC, inL, startP, startI, setAll, List.map_cons, List.map_nil, List.length_cons, List.length_nil, List.cons_append, List.nil_append, List.append_nil, List.replicate, List.getElem?_cons_zero, List.getElem?_cons_succ, List.set_cons_zero, List.set_cons_succ, Nat.reduceSub, Nat.reduceAdd, List.getD_cons_zero]
          refine ⟨by decide, ?_⟩
          split
          · refine ⟨ns, 0 + (j : Int), rfl, by omega, hn, fun c => ?_⟩
            simp (disch := decide) only [↓qVar_eq, ↓qC_eq, ↓qOp_eq, ↓qI_eq, ↓qI0_eq, ↓qEq_eq, ↓qIsN_eq, ↓qUn_eq, ↓qNeg_eq, ↓qB_eq, ↓qNotT_eq, ↓qAndT_eq, ↓qOrT_eq, ↓qAndV_eq, ↓qOrV_eq, ↓qNotV_eq, ↓qIf_eq, ↓qNil_eq, ↓qCons_eq, ↓qTup_eq, ↓qLst_eq, ↓qPart_eq, ↓qNoPart_eq, ↓qSl_eq, ↓qNext_eq, ↓qSeq_eq, ↓qBreak_eq, ↓qCont_eq, ↓qDrop_eq, ↓qRet_eq, ↓qRetN_eq, ↓qIfS_eq, ↓qNever_eq, ↓qSet_eq, ↓qOwn_eq, ↓qFreeze_eq, ↓qApp_eq, ↓qPar_eq, ↓qUnp_eq, ↓qUnpL_eq, ↓qFldS_eq, ↓qForL_eq, ↓qForT_eq, ↓qForR1_eq, ↓qForR2_eq, ↓qCall_eq, ↓qMake_eq, ↓qMeth_eq, ↓qProp_eq, ↓qCB_eq, ↓cAbs_eq, ↓cInt_eq, ↓cGcd_eq, ↓cLen_eq, ↓cLenS_eq, ↓qBits_eq, ↓qIsi_eq, ↓qBin_eq, ↓qUna_eq, ↓cAbsO_eq, ↓qEqO_eq, ↓qRaise_eq, ↓qTry_eq, ↓qXi_eq, ↓qLenO_eq, ↓qForR3_eq, ↓qIx_l, ↓qIx_t, ↓qFld_eq, ↓qXf_eq, ↓qSetIx_eq, ↓qIxO_eq, ↓qEqD_eq, ↓tryD_nx, ↓tryD_rt, ↓tryD_bk, ↓tryD_ct, ↓tryD_ex, ↓endsP_nx, ↓endsP_rt, ↓endsP_ex, ↓endsI_nx, ↓endsI_rt, ↓endsI_ex, ↓iAdd, ↓iSub, ↓iMul, ↓iDiv, ↓iMod, ↓iPow, ↓iLt, ↓iLe, ↓iGt, ↓iGe, atI_l0, atI_l1, atI_l2, atI_l3, atI_l4, atI_l5, atI_l6, atI_l7, atI_l8, atI_l9, atI_l10, atI_l11, atI_l12, lookup_hd, lookup_tl, putP_nil, putP_hd, putP_tl, List.lookup_nil, true_and, and_true, ↓reduceIte, if_true, if_false, exists_eq_left', exists_eq_left, Option.some.injEq, Sl.ins.injEq, Bool.false_xor, Bool.true_xor, beq_iff_eq, decide_eq_true_eq, Bool.not_true, Bool.not_false, Bool.false_eq_true, Nat.reduceLeDiff, Nat.reduceLT, Bool.not_eq_true', beq_eq_false_iff_ne, decide_eq_false_iff_not, reduceCtorEq, ne_eq, not_false_eq_true, not_true_eq_false, true_imp_iff, false_imp_iff, forall_const, beq_self_eq_true, Bool.and_self, isiInt, isiBool, isiStr, isiC, nfC, inL, startP, startI, setAll, List.map_cons, List.map_nil, List.length_cons, List.length_nil, List.cons_append, List.nil_append, List.append_nil, List.replicate, List.getElem?_cons_zero, List.getElem?_cons_succ, List.set_cons_zero, List.set_cons_succ, Nat.reduceSub, Nat.reduceAdd, List.getD_cons_zero, hz]
            refine ⟨hL, by decide, ?_⟩
            split
            · exact ⟨_, ((sL.emod hL).neg).mono (by decide), rfl⟩
            · exact ⟨_, (sL.emod hL).mono (by decide), rfl⟩
          · exact ⟨_, sz_small ra (by omega) (by decide), rfl⟩
        · rintro ρ' ⟨m, sm, rfl⟩
          simp (disch := decide) only [↓qVar_eq, ↓qC_eq, ↓qOp_eq, ↓qI_eq, ↓qI0_eq, ↓qEq_eq, ↓qIsN_eq, ↓qUn_eq, ↓qNeg_eq, ↓qB_eq, ↓qNotT_eq, ↓qAndT_eq, ↓qOrT_eq, ↓qAndV_eq, ↓qOrV_eq, ↓qNotV_eq, ↓qIf_eq, ↓qNil_eq, ↓qCons_eq, ↓qTup_eq, ↓qLst_eq, ↓qPart_eq, ↓qNoPart_eq, ↓qSl_eq, ↓qNext_eq, ↓qSeq_eq, ↓qBreak_eq, ↓qCont_eq, ↓qDrop_eq, ↓qRet_eq, ↓qRetN_eq, ↓qIfS_eq, ↓qNever_eq, ↓qSet_eq, ↓qOwn_eq, ↓qFreeze_eq, ↓qApp_eq, ↓qPar_eq, ↓qUnp_eq, ↓qUnpL_eq, ↓qFldS_eq, ↓qForL_eq, ↓qForT_eq, ↓qForR1_eq, ↓qForR2_eq, ↓qCall_eq, ↓qMake_eq, ↓qMeth_eq, ↓qProp_eq, ↓qCB_eq, ↓cAbs_eq, ↓cInt_eq, ↓cGcd_eq, ↓cLen_eq, ↓cLenS_eq, ↓qBits_eq, ↓qIsi_eq, ↓qBin_eq, ↓qUna_eq, ↓cAbsO_eq, ↓qEqO_eq, ↓qRaise_eq, ↓qTry_eq, ↓qXi_eq, ↓qLenO_eq, ↓qForR3_eq, ↓qIx_l, ↓qIx_t, ↓qFld_eq, ↓qXf_eq, ↓qSetIx_eq, ↓qIxO_eq, ↓qEqD_eq, ↓tryD_nx, ↓tryD_rt, ↓tryD_bk, ↓tryD_ct, ↓tryD_ex, ↓endsP_nx, ↓endsP_rt, ↓endsP_ex, ↓endsI_nx, ↓endsI_rt, ↓endsI_ex, ↓iAdd, ↓iSub, ↓iMul, ↓iDiv, ↓iMod, ↓iPow, ↓iLt, ↓iLe, ↓iGt, ↓iGe, atI_l0, atI_l1, atI_l2, atI_l3, atI_l4, atI_l5, atI_l6, atI_l7, atI_l8, atI_l9, atI_l10, atI_l11, atI_l12, lookup_hd, lookup_tl, putP_nil, putP_hd, putP_tl, List.lookup_nil, true_and, and_true, ↓reduceIte, if_true, if_false, exists_eq_left', exists_eq_left, Option.some.injEq, Sl.ins.injEq, Bool.false_xor, Bool.true_xor, beq_iff_eq, decide_eq_true_eq, Bool.not_true, Bool.not_false, Bool.false_eq_true, Nat.reduceLeDiff, Nat.reduceLT, Bool.not_eq_true', beq_eq_false_iff_ne, decide_eq_false_iff_not, reduceCtorEq, ne_eq, not_false_eq_true, not_true_eq_false, true_imp_iff, false_imp_iff, forall_const, beq_self_eq_true, Bool.and_self, isiInt, isiBool, isiStr, isiC, nfC, inL, startP, startI, setAll, List.map_cons, List.map_nil, List.length_cons, List.length_nil, List.cons_append, List.nil_append, List.append_nil, List.replicate, List.getElem?_cons_zero, List.getElem?_cons_succ, List.set_cons_zero, List.set_cons_succ, Nat.reduceSub, Nat.reduceAdd, List.getD_cons_zero]
          refine ⟨by rw [List.length_map]; omega, hN _ ⟨ms ++ [m], _, _, by rw [List.length_append, h1]; rfl, ?_, by rw [List.map_append]; rfl⟩⟩
          intro x hx
          rcases List.mem_append.mp hx with hx | hx
          · exact h2 x hx
          · rw [List.mem_singleton.mp hx]
            exact sm
      · rintro ρ ⟨ms, v, w, h1, h2, rfl⟩
        exact ⟨ms, v, w, h1, h2, rfl⟩
    rintro ρ' ⟨ms, v, w, hl, hm, rfl⟩
    match ms, hl, hm with
    | [m0, m1, m2, m3], _, hm =>
    have b0 : Sz 3340 m0 := hm _ (by simp)
    have b1 : Sz 3340 m1 := hm _ (by simp)
    have b2 : Sz 3340 m2 := hm _ (by simp)
    have b3 : Sz 3340 m3 := hm _ (by simp)
    have bz : Sz 3340 0 := sz_small (by decide) (by decide) (by decide)
    have bo : Sz 3340 1 := sz_small (by decide) (by decide) (by decide)
    clear hm
    refine ⟨fun ρ => ∃ (m0 m1 m2 m3 : Int), (Sz 3340 m0 ∧ Sz 3340 m1 ∧ Sz 3340 m2 ∧ Sz 3340 m3) ∧ ρ = [some (.pv (lstI ns)), some (.pv (lstI [r0, r1, r2, r3, r4, r5, r6, r7])), some (.pv (.int kind)), some (.pv (.int L)), some (.own [.int m0, .int m1, .int m2, .int m3]), v, w, none], ?_, ?_⟩
    · simp (disch := decide) only [↓qVar_eq, ↓qC_eq, ↓qOp_eq, ↓qI_eq, ↓qI0_eq, ↓qEq_eq, ↓qIsN_eq, ↓qUn_eq, ↓qNeg_eq, ↓qB_eq, ↓qNotT_eq, ↓qAndT_eq, ↓qOrT_eq, ↓qAndV_eq, ↓qOrV_eq, ↓qNotV_eq, ↓qIf_eq, ↓qNil_eq, ↓qCons_eq, ↓qTup_eq, ↓qLst_eq, ↓qPart_eq, ↓qNoPart_eq, ↓qSl_eq, ↓qNext_eq, ↓qSeq_eq, ↓qBreak_eq, ↓qCont_eq, ↓qDrop_eq, ↓qRet_eq, ↓qRetN_eq, ↓qIfS_eq, ↓qNever_eq, ↓qSet_eq, ↓qOwn_eq, ↓qFreeze_eq, ↓qApp_eq, ↓qPar_eq, ↓qUnp_eq, ↓qUnpL_eq, ↓qFldS_eq, ↓qForL_eq, ↓qForT_eq, ↓qForR1_eq, ↓qForR2_eq, ↓qCall_eq, ↓qMake_eq, ↓qMeth_eq, ↓qProp_eq, ↓qCB_eq, ↓cAbs_eq, ↓cInt_eq, ↓cGcd_eq, ↓cLen_eq, ↓cLenS_eq, ↓qBits_eq, ↓qIsi_eq, ↓qBin_eq, ↓qUna_eq, ↓cAbsO_eq, ↓qEqO_eq, ↓qRaise_eq, ↓qTry_eq, ↓qXi_eq, ↓qLenO_eq, ↓qForR3_eq, ↓qIx_l, ↓qIx_t, ↓qFld_eq, ↓qXf_eq, ↓qSetIx_eq, ↓qIxO_eq, ↓qEqD_eq, ↓tryD_nx, ↓tryD_rt, ↓tryD_bk, ↓tryD_ct, ↓tryD_ex, ↓endsP_nx, ↓endsP_rt, ↓endsP_ex, ↓endsI_nx, ↓endsI_rt, ↓endsI_ex, ↓iAdd, ↓iSub, ↓iMul, ↓iDiv, ↓iMod, ↓iPow, ↓iLt, ↓iLe, ↓iGt, ↓iGe, atI_l0, atI_l1, atI_l2, atI_l3, atI_l4, atI_l5, atI_l6, atI_l7, atI_l8, atI_l9, atI_l10, atI_l11, atI_l12, lookup_hd, lookup_tl, putP_nil, putP_hd, putP_tl, List.lookup_nil, true_and, and_true, ↓reduceIte, if_true, if_false, exists_eq_left', exists_eq_left, Option.some.injEq, Sl.ins.injEq, Bool.false_xor, Bool.true_xor, beq_iff_eq, decide_eq_true_eq, Bool.not_true, Bool.not_false, Bool.false_eq_true, Nat.reduceLeDiff, Nat.reduceLT, Bool.not_eq_true', beq_eq_false_iff_ne, decide_eq_false_iff_not, reduceCtorEq, ne_eq, not_false_eq_true, not_true_eq_false, true_imp_iff, false_imp_iff, forall_const, beq_self_eq_true, Bool.and_self, isiInt, isiBool, isiStr, isiC, nfC, inL, startP, startI, setAll, List.map_cons, List.map_nil, List.length_cons, List.length_nil, List.cons_append, List.nil_append, List.append_nil, List.replicate, List.getElem?_cons_zero, List.getElem?_cons_succ, List.set_cons_zero, List.set_cons_succ, Nat.reduceSub, Nat.reduceAdd, List.getD_cons_zero, lstI]
      split
      · refine ⟨by decide, mulR (by decide), ?_⟩
        have : r6 % 2 = 0 ∨ r6 % 2 = 1 := by omega
        rcases this with e | e
        · rw [e]
          exact ⟨_, _, _, _, ⟨bz, b1, b2, b3⟩, rfl⟩
        · rw [e]
          exact ⟨_, _, _, _, ⟨b0, b1, bz, b3⟩, rfl⟩
      · exact ⟨_, _, _, _, ⟨b0, b1, b2, b3⟩, rfl⟩
    rintro ρ' ⟨m0, m1, m2, m3, ⟨s0, s1, s2, s3⟩, rfl⟩
    refine ⟨fun ρ => ∃ (m1 m3 : Int) (v : Option Sl), (m1 ≠ 0 ∧ m3 ≠ 0 ∧ Sz 3340 m1 ∧ Sz 3340 m3) ∧ ρ = [some (.pv (lstI ns)), some (.pv (lstI [r0, r1, r2, r3, r4, r5, r6, r7])), some (.pv (.int kind)), some (.pv (.int L)), some (.own [.int m0, .int m1, .int m2, .int m3]), v, w, none], ?_, ?_⟩
    · simp (disch := decide) only [↓qVar_eq, ↓qC_eq, ↓qOp_eq, ↓qI_eq, ↓qI0_eq, ↓qEq_eq, ↓qIsN_eq, ↓qUn_eq, ↓qNeg_eq, ↓qB_eq, ↓qNotT_eq, ↓qAndT_eq, ↓qOrT_eq, ↓qAndV_eq, ↓qOrV_eq, ↓qNotV_eq, ↓qIf_eq, ↓qNil_eq, ↓qCons_eq, ↓qTup_eq, ↓qLst_eq, ↓qPart_eq, ↓qNoPart_eq, ↓qSl_eq, ↓qNext_eq, ↓qSeq_eq, ↓qBreak_eq, ↓qCont_eq, ↓qDrop_eq, ↓qRet_eq, ↓qRetN_eq, ↓qIfS_eq, ↓qNever_eq, ↓qSet_eq, ↓qOwn_eq, ↓qFreeze_eq, ↓qApp_eq, ↓qPar_eq, ↓qUnp_eq, ↓qUnpL_eq, ↓qFldS_eq, ↓qForL_eq, ↓qForT_eq, ↓qForR1_eq, ↓qForR2_eq, ↓qCall_eq, ↓qMake_eq, ↓qMeth_eq, ↓qProp_eq, ↓qCB_eq, ↓cAbs_eq, ↓cInt_eq, ↓cGcd_eq, ↓cLen_eq, ↓cLenS_eq, ↓qBits_eq, ↓qIsi_eq, ↓qBin_eq, ↓qUna_eq, ↓cAbsO_eq, ↓qEqO_eq, ↓qRaise_eq, ↓qTry_eq, ↓qXi_eq, ↓qLenO_eq, ↓qForR3_eq, ↓qIx_l, ↓qIx_t, ↓qFld_eq, ↓qXf_eq, ↓qSetIx_eq, ↓qIxO_eq, ↓qEqD_eq, ↓tryD_nx, ↓tryD_rt, ↓tryD_bk, ↓tryD_ct, ↓tryD_ex, ↓endsP_nx, ↓endsP_rt, ↓endsP_ex, ↓endsI_nx, ↓endsI_rt, ↓endsI_ex, ↓iAdd, ↓iSub, ↓iMul, ↓iDiv, ↓iMod, ↓iPow, ↓iLt, ↓iLe, ↓iGt, ↓iGe, atI_l0, atI_l1, atI_l2, atI_l3, atI_l4, atI_l5, atI_l6, atI_l7, atI_l8, atI_l9, atI_l10, atI_l11, atI_l12, lookup_hd, lookup_tl, putP_nil, putP_hd, putP_tl, List.lookup_nil, true_and, and_true, ↓reduceIte, if_true, if_false, exists_eq_left', exists_eq_left, Option.some.injEq, Sl.ins.injEq, Bool.false_xor, Bool.true_xor, beq_iff_eq, decide_eq_true_eq, Bool.not_true, Bool.not_false, Bool.false_eq_true, Nat.reduceLeDiff, Nat.reduceLT, Bool.not_eq_true', beq_eq_false_iff_ne, decide_eq_false_iff_not, reduceCtorEq, ne_eq, not_false_eq_true, not_true_eq_false, true_imp_iff, false_imp_iff, forall_const, beq_self_eq_true, Bool.and_self, isiInt, isiBool, isiStr, isiC, nfC, inL, startP, startI, setAll, List.map_cons, List.map_nil, List.length_cons, List.length_nil, List.cons_append, List.nil_append, List.append_nil, List.replicate, List.getElem?_cons_zero, List.getElem?_cons_succ, List.set_cons_zero, List.set_cons_succ, Nat.reduceSub, Nat.reduceAdd, List.getD_cons_zero, lstI]
      have one : (1 : Int) ≠ 0 := by decide
      refine ⟨2, by unfold RgC; decide, ?_⟩
      simp (disch := decide) only [↓qVar_eq, ↓qC_eq, ↓qOp_eq, ↓qI_eq, ↓qI0_eq, ↓qEq_eq, ↓qIsN_eq, ↓qUn_eq, ↓qNeg_eq, ↓qB_eq, ↓qNotT_eq, ↓qAndT_eq, ↓qOrT_eq, ↓qAndV_eq, ↓qOrV_eq, ↓qNotV_eq, ↓qIf_eq, ↓qNil_eq, ↓qCons_eq, ↓qTup_eq, ↓qLst_eq, ↓qPart_eq, ↓qNoPart_eq, ↓qSl_eq, ↓qNext_eq, ↓qSeq_eq, ↓qBreak_eq, ↓qCont_eq, ↓qDrop_eq, ↓qRet_eq, ↓qRetN_eq, ↓qIfS_eq, ↓qNever_eq, ↓qSet_eq, ↓qOwn_eq, ↓qFreeze_eq, ↓qApp_eq, ↓qPar_eq, ↓qUnp_eq, ↓qUnpL_eq, ↓qFldS_eq, ↓qForL_eq, ↓qForT_eq, ↓qForR1_eq, ↓qForR2_eq, ↓qCall_eq, ↓qMake_eq, ↓qMeth_eq, ↓qProp_eq, ↓qCB_eq, ↓cAbs_eq, ↓cInt_eq, ↓cGcd_eq, ↓cLen_eq, ↓cLenS_eq, ↓qBits_eq, ↓qIsi_eq, ↓qBin_eq, ↓qUna_eq, ↓cAbsO_eq, ↓qEqO_eq, ↓qRaise_eq, ↓qTry_eq, ↓qXi_eq, ↓qLenO_eq, ↓qForR3_eq, ↓qIx_l, ↓qIx_t, ↓qFld_eq, ↓qXf_eq, ↓qSetIx_eq, ↓qIxO_eq, ↓qEqD_eq, ↓tryD_nx, ↓tryD_rt, ↓tryD_bk, ↓tryD_ct, ↓tryD_ex, ↓endsP_nx, ↓endsP_rt, ↓endsP_ex, ↓endsI_nx, ↓endsI_rt, ↓endsI_ex, ↓iAdd, ↓iSub, ↓iMul, ↓iDiv, ↓iMod, ↓iPow, ↓iLt, ↓iLe, ↓iGt, ↓iGe, atI_l0, atI_l1, atI_l2, atI_l3, atI_l4, atI_l5, atI_l6, atI_l7, atI_l8, atI_l9, atI_l10, atI_l11, atI_l12, lookup_hd, lookup_tl, putP_nil, putP_hd, putP_tl, List.lookup_nil, true_and, and_true, ↓reduceIte, if_true, if_false, exists_eq_left', exists_eq_left, Option.some.injEq, Sl.ins.injEq, Bool.false_xor, Bool.true_xor, beq_iff_eq, decide_eq_true_eq, Bool.not_true, Bool.not_false, Bool.false_eq_true, Nat.reduceLeDiff, Nat.reduceLT, Bool.not_eq_true', beq_eq_false_iff_ne, decide_eq_false_iff_not, reduceCtorEq, ne_eq, not_false_eq_true, not_true_eq_false, true_imp_iff, false_imp_iff, forall_const, beq_self_eq_true, Bool.and_self, isiInt, isiBool, isiStr, isiC, nfC, inL, startP, startI, setAll, List.map_cons, List.map_nil, List.length_cons, List.length_nil, List.cons_append, List.nil_append, List.append_nil, List.replicate, List.getElem?_cons_zero, List.getElem?_cons_succ, List.set_cons_zero, List.set_cons_succ, Nat.reduceSub, Nat.reduceAdd, List.getD_cons_zero, show rangeC 1 2 2 = [.int 1, .int 3] from rfl, show ixN 4 1 = some 1 from rfl, show ixN 4 3 = some 3 from rfl, ↓qLoop_cons, ↓qLoop_nil]
      by_cases e1 : m1 = 0 <;> by_cases e3 : m3 = 0
      · simp (disch := decide) only [↓qVar_eq, ↓qC_eq, ↓qOp_eq, ↓qI_eq, ↓qI0_eq, ↓qEq_eq, ↓qIsN_eq, ↓qUn_eq, ↓qNeg_eq, ↓qB_eq, ↓qNotT_eq, ↓qAndT_eq, ↓qOrT_eq, ↓qAndV_eq, ↓qOrV_eq, ↓qNotV_eq, ↓qIf_eq, ↓qNil_eq, ↓qCons_eq, ↓qTup_eq, ↓qLst_eq, ↓qPart_eq, ↓qNoPart_eq, ↓qSl_eq, ↓qNext_eq, ↓qSeq_eq, ↓qBreak_eq, ↓qCont_eq, ↓qDrop_eq, ↓qRet_eq, ↓qRetN_eq, ↓qIfS_eq, ↓qNever_eq, ↓qSet_eq, ↓qOwn_eq, ↓qFreeze_eq, ↓qApp_eq, ↓qPar_eq, ↓qUnp_eq, ↓qUnpL_eq, ↓qFldS_eq, ↓qForL_eq, ↓qForT_eq, ↓qForR1_eq, ↓qForR2_eq, ↓qCall_eq, ↓qMake_eq, ↓qMeth_eq, ↓qProp_eq, ↓qCB_eq, ↓cAbs_eq, ↓cInt_eq, ↓cGcd_eq, ↓cLen_eq, ↓cLenS_eq, ↓qBits_eq, ↓qIsi_eq, ↓qBin_eq, ↓qUna_eq, ↓cAbsO_eq, ↓qEqO_eq, ↓qRaise_eq, ↓qTry_eq, ↓qXi_eq, ↓qLenO_eq, ↓qForR3_eq, ↓qIx_l, ↓qIx_t, ↓qFld_eq, ↓qXf_eq, ↓qSetIx_eq, ↓qIxO_eq, ↓qEqD_eq, ↓tryD_nx, ↓tryD_rt, ↓tryD_bk, ↓tryD_ct, ↓tryD_ex, ↓endsP_nx, ↓endsP_rt, ↓endsP_ex, ↓endsI_nx, ↓endsI_rt, ↓endsI_ex, ↓iAdd, ↓iSub, ↓iMul, ↓iDiv, ↓iMod, ↓iPow, ↓iLt, ↓iLe, ↓iGt, ↓iGe, atI_l0, atI_l1, atI_l2, atI_l3, atI_l4, atI_l5, atI_l6, atI_l7, atI_l8, atI_l9, atI_l10, atI_l11, atI_l12, lookup_hd, lookup_tl, putP_nil, putP_hd, putP_tl, List.lookup_nil, true_and, and_true, ↓reduceIte, if_true, if_false, exists_eq_left', exists_eq_left, Option.some.injEq, Sl.ins.injEq, Bool.false_xor, Bool.true_xor, beq_iff_eq, decide_eq_true_eq, Bool.not_true, Bool.not_false, Bool.false_eq_true, Nat.reduceLeDiff, Nat.reduceLT, Bool.not_eq_true', beq_eq_false_iff_ne, decide_eq_false_iff_not, reduceCtorEq, ne_eq, not_false_eq_true, not_true_eq_false, true_imp_iff, false_imp_iff, forall_const, beq_self_eq_true, Bool.and_self, isiInt, isiBool, isiStr, isiC, nfC, inL, startP, startI, setAll, List.map_cons, List.map_nil, List.length_cons, List.length_nil, List.cons_append, List.nil_append, List.append_nil, List.replicate, List.getElem?_cons_zero, List.getElem?_cons_succ, List.set_cons_zero, List.set_cons_succ, Nat.reduceSub, Nat.reduceAdd, List.getD_cons_zero, e1, e3]
        exact ⟨_, _, _, ⟨one, one, bo, bo⟩, rfl⟩
      · simp (disch := decide) only [↓qVar_eq, ↓qC_eq, ↓qOp_eq, ↓qI_eq, ↓qI0_eq, ↓qEq_eq, ↓qIsN_eq, ↓qUn_eq, ↓qNeg_eq, ↓qB_eq, ↓qNotT_eq, ↓qAndT_eq, ↓qOrT_eq, ↓qAndV_eq, ↓qOrV_eq, ↓qNotV_eq, ↓qIf_eq, ↓qNil_eq, ↓qCons_eq, ↓qTup_eq, ↓qLst_eq, ↓qPart_eq, ↓qNoPart_eq, ↓qSl_eq, ↓qNext_eq, ↓qSeq_eq, ↓qBreak_eq, ↓qCont_eq, ↓qDrop_eq, ↓qRet_eq, ↓qRetN_eq, ↓qIfS_eq, ↓qNever_eq, ↓qSet_eq, ↓qOwn_eq, ↓qFreeze_eq, ↓qApp_eq, ↓qPar_eq, ↓qUnp_eq, ↓qUnpL_eq, ↓qFldS_eq, ↓qForL_eq, ↓qForT_eq, ↓qForR1_eq, ↓qForR2_eq, ↓qCall_eq, ↓qMake_eq, ↓qMeth_eq, ↓qProp_eq, ↓qCB_eq, ↓cAbs_eq, ↓cInt_eq, ↓cGcd_eq, ↓cLen_eq, ↓cLenS_eq, ↓qBits_eq, ↓qIsi_eq, ↓qBin_eq, ↓qUna_eq, ↓cAbsO_eq, ↓qEqO_eq, ↓qRaise_eq, ↓qTry_eq, ↓qXi_eq, ↓qLenO_eq, ↓qForR3_eq, ↓qIx_l, ↓qIx_t, ↓qFld_eq, ↓qXf_eq, ↓qSetIx_eq, ↓qIxO_eq, ↓qEqD_eq, ↓tryD_nx, ↓tryD_rt, ↓tryD_bk, ↓tryD_ct, ↓tryD_ex, ↓endsP_nx, ↓endsP_rt, ↓endsP_ex, ↓endsI_nx, ↓endsI_rt, ↓endsI_ex, ↓iAdd, ↓iSub, ↓iMul, ↓iDiv, ↓iMod, ↓iPow, ↓iLt, ↓iLe, ↓iGt, ↓iGe, atI_l0, atI_l1, atI_l2, atI_l3, atI_l4, atI_l5, atI_l6, atI_l7, atI_l8, atI_l9, atI_l10, atI_l11, atI_l12, lookup_hd, lookup_tl, putP_nil, putP_hd, putP_tl, List.lookup_nil, true_and, and_true, ↓reduceIte, if_true, if_false, exists_eq_left', exists_eq_left, Option.some.injEq, Sl.ins.injEq, Bool.false_xor, Bool.true_xor, beq_iff_eq, decide_eq_true_eq, Bool.not_true, Bool.not_false, Bool.false_eq_true, Nat.reduceLeDiff, Nat.reduceLT, Bool.not_eq_true', beq_eq_false_iff_ne, decide_eq_false_iff_not, reduceCtorEq, ne_eq, not_false_eq_true, not_true_eq_false, true_imp_iff, false_imp_iff, forall_const, beq_self_eq_true, Bool.and_self, isiInt, isiBool, isiStr, isiC, nfC, inL, startP, startI, setAll, List.map_cons, List.map_nil, List.length_cons, List.length_nil, List.cons_append, List.nil_append, List.append_nil, List.replicate, List.getElem?_cons_zero, List.getElem?_cons_succ, List.set_cons_zero, List.set_cons_succ, Nat.reduceSub, Nat.reduceAdd, List.getD_cons_zero, e1, e3]
        exact ⟨_, _, _, ⟨one, e3, bo, s3⟩, rfl⟩
      · simp (disch := decide) only [↓qVar_eq, ↓qC_eq, ↓qOp_eq, ↓qI_eq, ↓qI0_eq, ↓qEq_eq, ↓qIsN_eq, ↓qUn_eq, ↓qNeg_eq, ↓qB_eq, ↓qNotT_eq, ↓qAndT_eq, ↓qOrT_eq, ↓qAndV_eq, ↓qOrV_eq, ↓qNotV_eq, ↓qIf_eq, ↓qNil_eq, ↓qCons_eq, ↓qTup_eq, ↓qLst_eq, ↓qPart_eq, ↓qNoPart_eq, ↓qSl_eq, ↓qNext_eq, ↓qSeq_eq, ↓qBreak_eq, ↓qCont_eq, ↓qDrop_eq, ↓qRet_eq, ↓qRetN_eq, ↓qIfS_eq, ↓qNever_eq, ↓qSet_eq, ↓qOwn_eq, ↓qFreeze_eq, ↓qApp_eq, ↓qPar_eq, ↓qUnp_eq, ↓qUnpL_eq, ↓qFldS_eq, ↓qForL_eq, ↓qForT_eq, ↓qForR1_eq, ↓qForR2_eq, ↓qCall_eq, ↓qMake_eq, ↓qMeth_eq, ↓qProp_eq, ↓qCB_eq, ↓cAbs_eq, ↓cInt_eq, ↓cGcd_eq, ↓cLen_eq, ↓cLenS_eq, ↓qBits_eq, ↓qIsi_eq, ↓qBin_eq, ↓qUna_eq, ↓cAbsO_eq, ↓qEqO_eq, ↓qRaise_eq, ↓qTry_eq, ↓qXi_eq, ↓qLenO_eq, ↓qForR3_eq, ↓qIx_l, ↓qIx_t, ↓qFld_eq, ↓qXf_eq, ↓qSetIx_eq, ↓qIxO_eq, ↓qEqD_eq, ↓tryD_nx, ↓tryD_rt, ↓tryD_bk, ↓tryD_ct, ↓tryD_ex, ↓endsP_nx, ↓endsP_rt, ↓endsP_ex, ↓endsI_nx, ↓endsI_rt, ↓endsI_ex, ↓iAdd, ↓iSub, ↓iMul, ↓iDiv, ↓iMod, ↓iPow, ↓iLt, ↓iLe, ↓iGt, ↓iGe, atI_l0, atI_l1, atI_l2, atI_l3, atI_l4, atI_l5, atI_l6, atI_l7, atI_l8, atI_l9, atI_l10, atI_l11, atI_l12, lookup_hd, lookup_tl, putP_nil, putP_hd, putP_tl, List.lookup_nil, true_and, and_true, ↓reduceIte, if_true, if_false, exists_eq_left', exists_eq_left, Option.some.injEq, Sl.ins.injEq, Bool.false_xor, Bool.true_xor, beq_iff_eq, decide_eq_true_eq, Bool.not_true, Bool.not_false, Bool.false_eq_true, Nat.reduceLeDiff, Nat.reduceLT, Bool.not_eq_true', beq_eq_false_iff_ne, decide_eq_false_iff_not, reduceCtorEq, ne_eq, not_false_eq_true, not_true_eq_false, true_imp_iff, false_imp_iff, forall_const, beq_self_eq_true, Bool.and_self, isiInt, isiBool, isiStr, isiC, nfC, inL, startP, startI, setAll, List.map_cons, List.map_nil, List.length_cons, List.length_nil, List.cons_append, List.nil_append, List.append_nil, List.replicate, List.getElem?_cons_zero, List.getElem?_cons_succ, List.set_cons_zero, List.set_cons_succ, Nat.reduceSub, Nat.reduceAdd, List.getD_cons_zero, e1, e3]
        exact ⟨_, _, _, ⟨e1, one, s1, bo⟩, rfl⟩
      · simp (disch := decide) only [↓qVar_eq, ↓qC_eq, ↓qOp_eq, ↓qI_eq, ↓qI0_eq, ↓qEq_eq, ↓qIsN_eq, ↓qUn_eq, ↓qNeg_eq, ↓qB_eq, ↓qNotT_eq, ↓qAndT_eq, ↓qOrT_eq, ↓qAndV_eq, ↓qOrV_eq, ↓qNotV_eq, ↓qIf_eq, ↓qNil_eq, ↓qCons_eq, ↓qTup_eq, ↓qLst_eq, ↓qPart_eq, ↓qNoPart_eq, ↓qSl_eq, ↓qNext_eq, ↓qSeq_eq, ↓qBreak_eq, ↓qCont_eq, ↓qDrop_eq, ↓qRet_eq, ↓qRetN_eq, ↓qIfS_eq, ↓qNever_eq, ↓qSet_eq, ↓qOwn_eq, ↓qFreeze_eq, ↓qApp_eq, ↓qPar_eq, ↓qUnp_eq, ↓qUnpL_eq, ↓qFldS_eq, ↓qForL_eq, ↓qForT_eq, ↓qForR1_eq, ↓qForR2_eq, ↓qCall_eq, ↓qMake_eq, ↓qMeth_eq, ↓qProp_eq, ↓qCB_eq, ↓cAbs_eq, ↓cInt_eq, ↓cGcd_eq, ↓cLen_eq, ↓cLenS_eq, ↓qBits_eq, ↓qIsi_eq, ↓qBin_eq, ↓qUna_eq, ↓cAbsO_eq, ↓qEqO_eq, ↓qRaise_eq, ↓qTry_eq, ↓qXi_eq, ↓qLenO_eq, ↓qForR3_eq, ↓qIx_l, ↓qIx_t, ↓qFld_eq, ↓qXf_eq, ↓qSetIx_eq, ↓qIxO_eq, ↓qEqD_eq, ↓tryD_nx, ↓tryD_rt, ↓tryD_bk, ↓tryD_ct, ↓tryD_ex, ↓endsP_nx, ↓endsP_rt, ↓endsP_ex, ↓endsI_nx, ↓endsI_rt, ↓endsI_ex, ↓iAdd, ↓iSub, ↓iMul, ↓iDiv, ↓iMod, ↓iPow, ↓iLt, ↓iLe, ↓iGt, ↓iGe, atI_l0, atI_l1, atI_l2, atI_l3, atI_l4, atI_l5, atI_l6, atI_l7, atI_l8, atI_l9, atI_l10, atI_l11, atI_l12, lookup_hd, lookup_tl, putP_nil, putP_hd, putP_tl, List.lookup_nil, true_and, and_true, ↓reduceIte, if_true, if_false, exists_eq_left', exists_eq_left, Option.some.injEq, Sl.ins.injEq, Bool.false_xor, Bool.true_xor, beq_iff_eq, decide_eq_true_eq, Bool.not_true, Bool.not_false, Bool.false_eq_true, Nat.reduceLeDiff, Nat.reduceLT, Bool.not_eq_true', beq_eq_false_iff_ne, decide_eq_false_iff_not, reduceCtorEq, ne_eq, not_false_eq_true, not_true_eq_false, true_imp_iff, false_imp_iff, forall_const, beq_self_eq_true, Bool.and_self, isiInt, isiBool, isiStr, isiC, nfC, inL, startP, startI, setAll, List.map_cons, List.map_nil, List.length_cons, List.length_nil, List.cons_append, List.nil_append, List.append_nil, List.replicate, List.getElem?_cons_zero, List.getElem?_cons_succ, List.set_cons_zero, List.set_cons_succ, Nat.reduceSub, Nat.reduceAdd, List.getD_cons_zero, e1, e3]
        exact ⟨_, _, _, ⟨e1, e3, s1, s3⟩, rfl⟩
    rintro ρ' ⟨m1, m3, v, ⟨n1, n3, s1, s3⟩, rfl⟩
    refine ⟨fun ρ => ∃ (m2 m3 : Int) (u : Option Sl), (m3 ≠ 0 ∧ Sz 3390 m2 ∧ Sz 3390 m3) ∧ ρ = [some (.pv (lstI ns)), some (.pv (lstI [r0, r1, r2, r3, r4, r5, r6, r7])), some (.pv (.int kind)), some (.pv (.int L)), some (.own [.int m0, .int m1, .int m2, .int m3]), v, w, u], ?_, ?_⟩
    · simp (disch := decide) only [↓qVar_eq, ↓qC_eq, ↓qOp_eq, ↓qI_eq, ↓qI0_eq, ↓qEq_eq, ↓qIsN_eq, ↓qUn_eq, ↓qNeg_eq, ↓qB_eq, ↓qNotT_eq, ↓qAndT_eq, ↓qOrT_eq, ↓qAndV_eq, ↓qOrV_eq, ↓qNotV_eq, ↓qIf_eq, ↓qNil_eq, ↓qCons_eq, ↓qTup_eq, ↓qLst_eq, ↓qPart_eq, ↓qNoPart_eq, ↓qSl_eq, ↓qNext_eq, ↓qSeq_eq, ↓qBreak_eq, ↓qCont_eq, ↓qDrop_eq, ↓qRet_eq, ↓qRetN_eq, ↓qIfS_eq, ↓qNever_eq, ↓qSet_eq, ↓qOwn_eq, ↓qFreeze_eq, ↓qApp_eq, ↓qPar_eq, ↓qUnp_eq, ↓qUnpL_eq, ↓qFldS_eq, ↓qForL_eq, ↓qForT_eq, ↓qForR1_eq, ↓qForR2_eq, ↓qCall_eq, ↓qMake_eq, ↓qMeth_eq, ↓qProp_eq, ↓qCB_eq, ↓cAbs_eq, ↓cInt_eq, ↓cGcd_eq, ↓cLen_eq, ↓cLenS_eq, ↓qBits_eq, ↓qIsi_eq, ↓qBin_eq, ↓qUna_eq, ↓cAbsO_eq, ↓qEqO_eq, ↓qRaise_eq, ↓qTry_eq, ↓qXi_eq, ↓qLenO_eq, ↓qForR3_eq, ↓qIx_l, ↓qIx_t, ↓qFld_eq, ↓qXf_eq, ↓qSetIx_eq, ↓qIxO_eq, ↓qEqD_eq, ↓tryD_nx, ↓tryD_rt, ↓tryD_bk, ↓tryD_ct, ↓tryD_ex, ↓endsP_nx, ↓endsP_rt, ↓endsP_ex, ↓endsI_nx, ↓endsI_rt, ↓endsI_ex, ↓iAdd, ↓iSub, ↓iMul, ↓iDiv, ↓iMod, ↓iPow, ↓iLt, ↓iLe, ↓iGt, ↓iGe, atI_l0, atI_l1, atI_l2, atI_l3, atI_l4, atI_l5, atI_l6, atI_l7, atI_l8, atI_l9, atI_l10, atI_l11, atI_l12, lookup_hd, lookup_tl, putP_nil, putP_hd, putP_tl, List.lookup_nil, true_and, and_true, ↓reduceIte, if_true, if_false, exists_eq_left', exists_eq_left, Option.some.injEq, Sl.ins.injEq, Bool.false_xor, Bool.true_xor, beq_iff_eq, decide_eq_true_eq, Bool.not_true, Bool.not_false, Bool.false_eq_true, Nat.reduceLeDiff, Nat.reduceLT, Bool.not_eq_true', beq_eq_false_iff_ne, decide_eq_false_iff_not, reduceCtorEq, ne_eq, not_false_eq_true, not_true_eq_false, true_imp_iff, false_imp_iff, forall_const, beq_self_eq_true, Bool.and_self, isiInt, isiBool, isiStr, isiC, nfC, inL, startP, startI, setAll, List.map_cons, List.map_nil, List.length_cons, List.length_nil, List.cons_append, List.nil_append, List.append_nil, List.replicate, List.getElem?_cons_zero, List.getElem?_cons_succ, List.set_cons_zero, List.set_cons_succ, Nat.reduceSub, Nat.reduceAdd, List.getD_cons_zero, lstI]
      split
      · refine ⟨by decide, ?_⟩
        refine ⟨fun ρ => ∃ f : Int, f ≠ 0 ∧ -32 ≤ f ∧ f ≤ 32 ∧ ρ = [some (.pv (lstI ns)), some (.pv (lstI [r0, r1, r2, r3, r4, r5, r6, r7])), some (.pv (.int kind)), some (.pv (.int L)), some (.own [.int m0, .int m1, .int m2, .int m3]), v, w, some (.pv (.int f))], ?_, ?_⟩
        · simp (disch := decide) only [↓qVar_eq, ↓qC_eq, ↓qOp_eq, ↓qI_eq, ↓qI0_eq, ↓qEq_eq, ↓qIsN_eq, ↓qUn_eq, ↓qNeg_eq, ↓qB_eq, ↓qNotT_eq, ↓qAndT_eq, ↓qOrT_eq, ↓qAndV_eq, ↓qOrV_eq, ↓qNotV_eq, ↓qIf_eq, ↓qNil_eq, ↓qCons_eq, ↓qTup_eq, ↓qLst_eq, ↓qPart_eq, ↓qNoPart_eq, ↓qSl_eq, ↓qNext_eq, ↓qSeq_eq, ↓qBreak_eq, ↓qCont_eq, ↓qDrop_eq, ↓qRet_eq, ↓qRetN_eq, ↓qIfS_eq, ↓qNever_eq, ↓qSet_eq, ↓qOwn_eq, ↓qFreeze_eq, ↓qApp_eq, ↓qPar_eq, ↓qUnp_eq, ↓qUnpL_eq, ↓qFldS_eq, ↓qForL_eq, ↓qForT_eq, ↓qForR1_eq, ↓qForR2_eq, ↓qCall_eq, ↓qMake_eq, ↓qMeth_eq, ↓qProp_eq, ↓qCB_eq, ↓cAbs_eq, ↓cInt_eq, ↓cGcd_eq, ↓cLen_eq, ↓cLenS_eq, ↓qBits_eq, ↓qIsi_eq, ↓qBin_eq, ↓qUna_eq, ↓cAbsO_eq, ↓qEqO_eq, ↓qRaise_eq, ↓qTry_eq, ↓qXi_eq, ↓qLenO_eq, ↓qForR3_eq, ↓qIx_l, ↓qIx_t, ↓qFld_eq, ↓qXf_eq, ↓qSetIx_eq, ↓qIxO_eq, ↓qEqD_eq, ↓tryD_nx, ↓tryD_rt, ↓tryD_bk, ↓tryD_ct, ↓tryD_ex, ↓endsP_nx, ↓endsP_rt, ↓endsP_ex, ↓endsI_nx, ↓endsI_rt, ↓endsI_ex, ↓iAdd, ↓iSub, ↓iMul, ↓iDiv, ↓iMod, ↓iPow, ↓iLt, ↓iLe, ↓iGt, ↓iGe, atI_l0, atI_l1, atI_l2, atI_l3, atI_l4, atI_l5, atI_l6, atI_l7, atI_l8, atI_l9, atI_l10, atI_l11, atI_l12, lookup_hd, lookup_tl, putP_nil, putP_hd, putP_tl, List.lookup_nil, true_and, and_true, ↓reduceIte, if_true, if_false, exists_eq_left', exists_eq_left, Option.some.injEq, Sl.ins.injEq, Bool.false_xor, Bool.true_xor, beq_iff_eq, decide_eq_true_eq, Bool.not_true, Bool.not_false, Bool.false_eq_true, Nat.reduceLeDiff, Nat.reduceLT, Bool.not_eq_true', beq_eq_false_iff_ne, decide_eq_false_iff_not, reduceCtorEq, ne_eq, not_false_eq_true, not_true_eq_false, true_imp_iff, false_imp_iff, forall_const, beq_self_eq_true, Bool.and_self, isiInt, isiBool, isiStr, isiC, nfC, inL, startP, startI, setAll, List.map_cons, List.map_nil, List.length_cons, List.length_nil, List.cons_append, List.nil_append, List.append_nil, List.replicate, List.getElem?_cons_zero, List.getElem?_cons_succ, List.set_cons_zero, List.set_cons_succ, Nat.reduceSub, Nat.reduceAdd, List.getD_cons_zero]
          split
          · exact ⟨31, by decide, by decide, by decide, rfl⟩
          · exact ⟨_, by assumption, by omega, by omega, rfl⟩
        · rintro ρ' ⟨f, f0, f1, f2, rfl⟩
          simp (disch := decide) only [↓qVar_eq, ↓qC_eq, ↓qOp_eq, ↓qI_eq, ↓qI0_eq, ↓qEq_eq, ↓qIsN_eq, ↓qUn_eq, ↓qNeg_eq, ↓qB_eq, ↓qNotT_eq, ↓qAndT_eq, ↓qOrT_eq, ↓qAndV_eq, ↓qOrV_eq, ↓qNotV_eq, ↓qIf_eq, ↓qNil_eq, ↓qCons_eq, ↓qTup_eq, ↓qLst_eq, ↓qPart_eq, ↓qNoPart_eq, ↓qSl_eq, ↓qNext_eq, ↓qSeq_eq, ↓qBreak_eq, ↓qCont_eq, ↓qDrop_eq, ↓qRet_eq, ↓qRetN_eq, ↓qIfS_eq, ↓qNever_eq, ↓qSet_eq, ↓qOwn_eq, ↓qFreeze_eq, ↓qApp_eq, ↓qPar_eq, ↓qUnp_eq, ↓qUnpL_eq, ↓qFldS_eq, ↓qForL_eq, ↓qForT_eq, ↓qForR1_eq, ↓qForR2_eq, ↓qCall_eq, ↓qMake_eq, ↓qMeth_eq, ↓qProp_eq, ↓qCB_eq, ↓cAbs_eq, ↓cInt_eq, ↓cGcd_eq, ↓cLen_eq, ↓cLenS_eq, ↓qBits_eq, ↓qIsi_eq, ↓qBin_eq, ↓qUna_eq, ↓cAbsO_eq, ↓qEqO_eq, ↓qRaise_eq, ↓qTry_eq, ↓qXi_eq, ↓qLenO_eq, ↓qForR3_eq, ↓qIx_l, ↓qIx_t, ↓qFld_eq, ↓qXf_eq, ↓qSetIx_eq, ↓qIxO_eq, ↓qEqD_eq, ↓tryD_nx, ↓tryD_rt, ↓tryD_bk, ↓tryD_ct, ↓tryD_ex, ↓endsP_nx, ↓endsP_rt, ↓endsP_ex, ↓endsI_nx, ↓endsI_rt, ↓endsI_ex, ↓iAdd, ↓iSub, ↓iMul, ↓iDiv, ↓iMod, ↓iPow, ↓iLt, ↓iLe, ↓iGt, ↓iGe, atI_l0, atI_l1, atI_l2, atI_l3, atI_l4, atI_l5, atI_l6, atI_l7, atI_l8, atI_l9, atI_l10, atI_l11, atI_l12, lookup_hd, lookup_tl, putP_nil, putP_hd, putP_tl, List.lookup_nil, true_and, and_true, ↓reduceIte, if_true, if_false, exists_eq_left', exists_eq_left, Option.some.injEq, Sl.ins.injEq, Bool.false_xor, Bool.true_xor, beq_iff_eq, decide_eq_true_eq, Bool.not_true, Bool.not_false, Bool.false_eq_true, Nat.reduceLeDiff, Nat.reduceLT, Bool.not_eq_true', beq_eq_false_iff_ne, decide_eq_false_iff_not, reduceCtorEq, ne_eq, not_false_eq_true, not_true_eq_false, true_imp_iff, false_imp_iff, forall_const, beq_self_eq_true, Bool.and_self, isiInt, isiBool, isiStr, isiC, nfC, inL, startP, startI, setAll, List.map_cons, List.map_nil, List.length_cons, List.length_nil, List.cons_append, List.nil_append, List.append_nil, List.replicate, List.getElem?_cons_zero, List.getElem?_cons_succ, List.set_cons_zero, List.set_cons_succ, Nat.reduceSub, Nat.reduceAdd, List.getD_cons_zero, show ixN 4 2 = some 2 from rfl, show ixN 4 3 = some 3 from rfl]
          have sf : Sz 6 f := sz_small f1 f2 (by decide)
          refine ⟨mulR ⟨by omega, by omega⟩, mulR ⟨by omega, by omega⟩, _, _, _, ⟨Int.mul_ne_zero n1 f0, (s0.mul sf).mono (by decide), (s1.mul sf).mono (by decide)⟩, rfl⟩
      · exact ⟨_, _, _, ⟨n3, s2.mono (by decide), s3.mono (by decide)⟩, rfl⟩
    rintro ρ' ⟨m2, m3, u, ⟨n3, s2, s3⟩, rfl⟩
    refine ⟨fun ρ => ∃ (m2 m3 : Int), (m3 ≠ 0 ∧ Sz 3400 m2 ∧ Sz 3400 m3) ∧ ρ = [some (.pv (lstI ns)), some (.pv (lstI [r0, r1, r2, r3, r4, r5, r6, r7])), some (.pv (.int kind)), some (.pv (.int L)), some (.own [.int m0, .int m1, .int m2, .int m3]), v, w, u], ?_, ?_⟩
    · simp (disch := decide) only [↓qVar_eq, ↓qC_eq, ↓qOp_eq, ↓qI_eq, ↓qI0_eq, ↓qEq_eq, ↓qIsN_eq, ↓qUn_eq, ↓qNeg_eq, ↓qB_eq, ↓qNotT_eq, ↓qAndT_eq, ↓qOrT_eq, ↓qAndV_eq, ↓qOrV_eq, ↓qNotV_eq, ↓qIf_eq, ↓qNil_eq, ↓qCons_eq, ↓qTup_eq, ↓qLst_eq, ↓qPart_eq, ↓qNoPart_eq, ↓qSl_eq, ↓qNext_eq, ↓qSeq_eq, ↓qBreak_eq, ↓qCont_eq, ↓qDrop_eq, ↓qRet_eq, ↓qRetN_eq, ↓qIfS_eq, ↓qNever_eq, ↓qSet_eq, ↓qOwn_eq, ↓qFreeze_eq, ↓qApp_eq, ↓qPar_eq, ↓qUnp_eq, ↓qUnpL_eq, ↓qFldS_eq, ↓qForL_eq, ↓qForT_eq, ↓qForR1_eq, ↓qForR2_eq, ↓qCall_eq, ↓qMake_eq, ↓qMeth_eq, ↓qProp_eq, ↓qCB_eq, ↓cAbs_eq, ↓cInt_eq, ↓cGcd_eq, ↓cLen_eq, ↓cLenS_eq, ↓qBits_eq, ↓qIsi_eq, ↓qBin_eq, ↓qUna_eq, ↓cAbsO_eq, ↓qEqO_eq, ↓qRaise_eq, ↓qTry_eq, ↓qXi_eq, ↓qLenO_eq, ↓qForR3_eq, ↓qIx_l, ↓qIx_t, ↓qFld_eq, ↓qXf_eq, ↓qSetIx_eq, ↓qIxO_eq, ↓qEqD_eq, ↓tryD_nx, ↓tryD_rt, ↓tryD_bk, ↓tryD_ct, ↓tryD_ex, ↓endsP_nx, ↓endsP_rt, ↓endsP_ex, ↓endsI_nx, ↓endsI_rt, ↓endsI_ex, ↓iAdd, ↓iSub, ↓iMul, ↓iDiv, ↓iMod, ↓iPow, ↓iLt, ↓iLe, ↓iGt, ↓iGe, atI_l0, atI_l1, atI_l2, atI_l3, atI_l4, atI_l5, atI_l6, atI_l7, atI_l8, atI_l9, atI_l10, atI_l11, atI_l12, lookup_hd, lookup_tl, putP_nil, putP_hd, putP_tl, List.lookup_nil, true_and, and_true, ↓reduceIte, if_true, if_false, exists_eq_left', exists_eq_left, Option.some.injEq, Sl.ins.injEq, Bool.false_xor, Bool.true_xor, beq_iff_eq, decide_eq_true_eq, Bool.not_true, Bool.not_false, Bool.false_eq_true, Nat.reduceLeDiff, Nat.reduceLT, Bool.not_eq_true', beq_eq_false_iff_ne, decide_eq_false_iff_not, reduceCtorEq, ne_eq, not_false_eq_true, not_true_eq_false, true_imp_iff, false_imp_iff, forall_const, beq_self_eq_true, Bool.and_self, isiInt, isiBool, isiStr, isiC, nfC, inL, startP, startI, setAll, List.map_cons, List.map_nil, List.length_cons, List.length_nil, List.cons_append, List.nil_append, List.append_nil, List.replicate, List.getElem?_cons_zero, List.getElem?_cons_succ, List.set_cons_zero, List.set_cons_succ, Nat.reduceSub, Nat.reduceAdd, List.getD_cons_zero, lstI]
      split
      · simp (disch := decide) only [↓qVar_eq, ↓qC_eq, ↓qOp_eq, ↓qI_eq, ↓qI0_eq, ↓qEq_eq, ↓qIsN_eq, ↓qUn_eq, ↓qNeg_eq, ↓qB_eq, ↓qNotT_eq, ↓qAndT_eq, ↓qOrT_eq, ↓qAndV_eq, ↓qOrV_eq, ↓qNotV_eq, ↓qIf_eq, ↓qNil_eq, ↓qCons_eq, ↓qTup_eq, ↓qLst_eq, ↓qPart_eq, ↓qNoPart_eq, ↓qSl_eq, ↓qNext_eq, ↓qSeq_eq, ↓qBreak_eq, ↓qCont_eq, ↓qDrop_eq, ↓qRet_eq, ↓qRetN_eq, ↓qIfS_eq, ↓qNever_eq, ↓qSet_eq, ↓qOwn_eq, ↓qFreeze_eq, ↓qApp_eq, ↓qPar_eq, ↓qUnp_eq, ↓qUnpL_eq, ↓qFldS_eq, ↓qForL_eq, ↓qForT_eq, ↓qForR1_eq, ↓qForR2_eq, ↓qCall_eq, ↓qMake_eq, ↓qMeth_eq, ↓qProp_eq, ↓qCB_eq, ↓cAbs_eq, ↓cInt_eq, ↓cGcd_eq, ↓cLen_eq, ↓cLenS_eq, ↓qBits_eq, ↓qIsi_eq, ↓qBin_eq, ↓qUna_eq, ↓cAbsO_eq, ↓qEqO_eq, ↓qRaise_eq, ↓qTry_eq, ↓qXi_eq, ↓qLenO_eq, ↓qForR3_eq, ↓qIx_l, ↓qIx_t, ↓qFld_eq, ↓qXf_eq, ↓qSetIx_eq, ↓qIxO_eq, ↓qEqD_eq, ↓tryD_nx, ↓tryD_rt, ↓tryD_bk, ↓tryD_ct, ↓tryD_ex, ↓endsP_nx, ↓endsP_rt, ↓endsP_ex, ↓endsI_nx, ↓endsI_rt, ↓endsI_ex, ↓iAdd, ↓iSub, ↓iMul, ↓iDiv, ↓iMod, ↓iPow, ↓iLt, ↓iLe, ↓iGt, ↓iGe, atI_l0, atI_l1, atI_l2, atI_l3, atI_l4, atI_l5, atI_l6, atI_l7, atI_l8, atI_l9, atI_l10, atI_l11, atI_l12, lookup_hd, lookup_tl, putP_nil, putP_hd, putP_tl, List.lookup_nil, true_and, and_true, ↓reduceIte, if_true, if_false, exists_eq_left', exists_eq_left, Option.some.injEq, Sl.ins.injEq, Bool.false_xor, Bool.true_xor, beq_iff_eq, decide_eq_true_eq, Bool.not_true, Bool.not_false, Bool.false_eq_true, Nat.reduceLeDiff, Nat.reduceLT, Bool.not_eq_true', beq_eq_false_iff_ne, decide_eq_false_iff_not, reduceCtorEq, ne_eq, not_false_eq_true, not_true_eq_false, true_imp_iff, false_imp_iff, forall_const, beq_self_eq_true, Bool.and_self, isiInt, isiBool, isiStr, isiC, nfC, inL, startP, startI, setAll, List.map_cons, List.map_nil, List.length_cons, List.length_nil, List.cons_append, List.nil_append, List.append_nil, List.replicate, List.getElem?_cons_zero, List.getElem?_cons_succ, List.set_cons_zero, List.set_cons_succ, Nat.reduceSub, Nat.reduceAdd, List.getD_cons_zero, show ixN 4 2 = some 2 from rfl, show ixN 4 3 = some 3 from rfl]
        exact ⟨_, _, ⟨n1, (s0.add bo).mono (by decide), s1.mono (by decide)⟩, rfl⟩
      · exact ⟨_, _, ⟨n3, s2.mono (by decide), s3.mono (by decide)⟩, rfl⟩
    rintro ρ' ⟨m2, m3, ⟨n3, s2, s3⟩, rfl⟩
    simp (disch := decide) only [↓qVar_eq, ↓qC_eq, ↓qOp_eq, ↓qI_eq, ↓qI0_eq, ↓qEq_eq, ↓qIsN_eq, ↓qUn_eq, ↓qNeg_eq, ↓qB_eq, ↓qNotT_eq, ↓qAndT_eq, ↓qOrT_eq, ↓qAndV_eq, ↓qOrV_eq, ↓qNotV_eq, ↓qIf_eq, ↓qNil_eq, ↓qCons_eq, ↓qTup_eq, ↓qLst_eq, ↓qPart_eq, ↓qNoPart_eq, ↓qSl_eq, ↓qNext_eq, ↓qSeq_eq, ↓qBreak_eq, ↓qCont_eq, ↓qDrop_eq, ↓qRet_eq, ↓qRetN_eq, ↓qIfS_eq, ↓qNever_eq, ↓qSet_eq, ↓qOwn_eq, ↓qFreeze_eq, ↓qApp_eq, ↓qPar_eq, ↓qUnp_eq, ↓qUnpL_eq, ↓qFldS_eq, ↓qForL_eq, ↓qForT_eq, ↓qForR1_eq, ↓qForR2_eq, ↓qCall_eq, ↓qMake_eq, ↓qMeth_eq, ↓qProp_eq, ↓qCB_eq, ↓cAbs_eq, ↓cInt_eq, ↓cGcd_eq, ↓cLen_eq, ↓cLenS_eq, ↓qBits_eq, ↓qIsi_eq, ↓qBin_eq, ↓qUna_eq, ↓cAbsO_eq, ↓qEqO_eq, ↓qRaise_eq, ↓qTry_eq, ↓qXi_eq, ↓qLenO_eq, ↓qForR3_eq, ↓qIx_l, ↓qIx_t, ↓qFld_eq, ↓qXf_eq, ↓qSetIx_eq, ↓qIxO_eq, ↓qEqD_eq, ↓tryD_nx, ↓tryD_rt, ↓tryD_bk, ↓tryD_ct, ↓tryD_ex, ↓endsP_nx, ↓endsP_rt, ↓endsP_ex, ↓endsI_nx, ↓endsI_rt, ↓endsI_ex, ↓iAdd, ↓iSub, ↓iMul, ↓iDiv, ↓iMod, ↓iPow, ↓iLt, ↓iLe, ↓iGt, ↓iGe, atI_l0, atI_l1, atI_l2, atI_l3, atI_l4, atI_l5, atI_l6, atI_l7, atI_l8, atI_l9, atI_l10, atI_l11, atI_l12, lookup_hd, lookup_tl, putP_nil, putP_hd, putP_tl, List.lookup_nil, true_and, and_true, ↓reduceIte, if_true, if_false, exists_eq_left', exists_eq_left, Option.some.injEq, Sl.ins.injEq, Bool.false_xor, Bool.true_xor, beq_iff_eq, decide_eq_true_eq, Bool.not_true, Bool.not_false, Bool.false_eq_true, Nat.reduceLeDiff, Nat.reduceLT, Bool.not_eq_true', beq_eq_false_iff_ne, decide_eq_false_iff_not, reduceCtorEq, ne_eq, not_false_eq_true, not_true_eq_false, true_imp_iff, false_imp_iff, forall_const, beq_self_eq_true, Bool.and_self, isiInt, isiBool, isiStr, isiC, nfC, inL, startP, startI, setAll, List.map_cons, List.map_nil, List.length_cons, List.length_nil, List.cons_append, List.nil_append, List.append_nil, List.replicate, List.getElem?_cons_zero, List.getElem?_cons_succ, List.set_cons_zero, List.set_cons_succ, Nat.reduceSub, Nat.reduceAdd, List.getD_cons_zero]
    exact h _ _ _ _ n1 n3 (s0.mono (by decide)) (s1.mono (by decide)) s2 s3

theorem ok_law_is (T : Txt K mg a) (S : Fs K a d) : FnOk P w K mg base (L2.CX P w) 2 a.f_law_is d.d_law_is ["x", "pair"] (spP K (P_law_is a)) := by
  refine fa_q (k := 1) S.F_law_is sc_law_is (len_law_is a) (fun cdv A outer s H E hr =>
    (jss_cons (js_if (jt_w (jw_or (jt_not (jt_val (je_isiC (kit_c (os := []) T.is_Ratio T.kc_Ratio (fun C h => nomatch h)) T.b_isinstance (je_var 0) T.mg_Ratio))) (jw_or (jt_not (jt_val (je_call (ok_law_is_integer T S) (hr.mono (by decide)) T.mg_law_is_integer S.F_law_is_integer.kp S.B_law_is_integer .nil (fun _ => .nil) (tkOf (takes_of rfl rfl rfl rfl)) (ja_cons (je_fld (je_var 0) T.cl_Ratio T.na_Ratio_top) ja_nil)))) (jw_or1 (jt_not (jt_val (je_call (ok_law_is_integer T S) (hr.mono (by decide)) T.mg_law_is_integer S.F_law_is_integer.kp S.B_law_is_integer .nil (fun _ => .nil) (tkOf (takes_of rfl rfl rfl rfl)) (ja_cons (je_fld (je_var 0) T.cl_Ratio T.na_Ratio_bottom) ja_nil)))))))) (jss_one (js_ret je_bl)) jss_nil)
      (jss_one (js_ret (je_and (je_eq (je_fld (je_var 0) T.cl_Ratio T.na_Ratio_top) (je_ix (je_var 1) je_int)) (je_one (je_eq (je_fld (je_var 0) T.cl_Ratio T.na_Ratio_bottom) (je_ix (je_var 1) je_int)))))))) ?pure
  case pure =>
    rintro xs y Q ⟨t, b, p0, p1, rfl, h⟩
    simp (disch := decide) only [↓qVar_eq, ↓qC_eq, ↓qOp_eq, ↓qI_eq, ↓qI0_eq, ↓qEq_eq, ↓qIsN_eq, ↓qUn_eq, ↓qNeg_eq, ↓qB_eq, ↓qNotT_eq, ↓qAndT_eq, ↓qOrT_eq, ↓qAndV_eq, ↓qOrV_eq, ↓qNotV_eq, ↓qIf_eq, ↓qNil_eq, ↓qCons_eq, ↓qTup_eq, ↓qLst_eq, ↓qPart_eq, ↓qNoPart_eq, ↓qSl_eq, ↓qNext_eq, ↓qSeq_eq, ↓qBreak_eq, ↓qCont_eq, ↓qDrop_eq, ↓qRet_eq, ↓qRetN_eq, ↓qIfS_eq, ↓qNever_eq, ↓qSet_eq, ↓qOwn_eq, ↓qFreeze_eq, ↓qApp_eq, ↓qPar_eq, ↓qUnp_eq, ↓qUnpL_eq, ↓qFldS_eq, ↓qForL_eq, ↓qForT_eq, ↓qForR1_eq, ↓qForR2_eq, ↓qCall_eq, ↓qMake_eq, ↓qMeth_eq, ↓qProp_eq, ↓qCB_eq, ↓cAbs_eq, ↓cInt_eq, ↓cGcd_eq, ↓cLen_eq, ↓cLenS_eq, ↓qBits_eq, ↓qIsi_eq, ↓qBin_eq, ↓qUna_eq, ↓cAbsO_eq, ↓qEqO_eq, ↓qRaise_eq, ↓qTry_eq, ↓qXi_eq, ↓qLenO_eq, ↓qForR3_eq, ↓qIx_l, ↓qIx_t, ↓qFld_eq, ↓qXf_eq, ↓qSetIx_eq, ↓qIxO_eq, ↓qEqD_eq, ↓tryD_nx, ↓tryD_rt, ↓tryD_bk, ↓tryD_ct, ↓tryD_ex, ↓endsP_nx, ↓endsP_rt, ↓endsP_ex, ↓endsI_nx, ↓endsI_rt, ↓endsI_ex, ↓iAdd, ↓iSub, ↓iMul, ↓iDiv, ↓iMod, ↓iPow, ↓iLt, ↓iLe, ↓iGt, ↓iGe, atI_l0, atI_l1, atI_l2, atI_l3, atI_l4, atI_l5, atI_l6, atI_l7, atI_l8, atI_l9, atI_l10, atI_l11, atI_l12, lookup_hd, lookup_tl, putP_nil, putP_hd, putP_tl, List.lookup_nil, true_and, and_true, ↓reduceIte, if_true, if_false, exists_eq_left', exists_eq_left, Option.some.injEq, Sl.ins.injEq, Bool.false_xor, Bool.true_xor, beq_iff_eq, decide_eq_true_eq, Bool.not_true, Bool.not_false, Bool.false_eq_true, Nat.reduceLeDiff, Nat.reduceLT, Bool.not_eq_true', beq_eq_false_iff_ne, decide_eq_false_iff_not, reduceCtorEq, ne_eq, not_false_eq_true, not_true_eq_false, true_imp_iff, false_imp_iff, forall_const, beq_self_eq_true, Bool.and_self, isiInt, isiBool, isiStr, isiC, nfC, inL, startP, startI, setAll, List.map_cons, List.map_nil, List.length_cons, List.length_nil, List.cons_append, List.nil_append, List.append_nil, List.replicate, List.getElem?_cons_zero, List.getElem?_cons_succ, List.set_cons_zero, List.set_cons_succ, Nat.reduceSub, Nat.reduceAdd, List.getD_cons_zero, ↓i_isint]
    split
    · rename_i e
      subst e
      simpa using h
    · rename_i e
      have : (t == p0) = false := beq_eq_false_iff_ne.mpr e
      rw [this] at h
      exact h

theorem ok_law_truth (T : Txt K mg a) (S : Fs K a d) : FnOk P w K mg base (L2.CX P w) 1 a.f_law_truth d.d_law_truth ["x", "due"] (spP K (P_law_truth a)) := by
  refine fa_q (k := 0) S.F_law_truth sc_law_truth (len_law_truth a) (fun cdv A outer s H E hr =>
    (jss_one (js_ret (je_and (je_isiT (kit_bool (os := []) (fun C h => nomatch h)) T.b_isinstance (je_var 0) T.b_bool) (je_one (je_eq (je_var 0) (je_var 1))))))) ?pure
  case pure =>
    rintro xs y Q ⟨b, c, rfl, h⟩
    simp (disch := decide) only [↓qVar_eq, ↓qC_eq, ↓qOp_eq, ↓qI_eq, ↓qI0_eq, ↓qEq_eq, ↓qIsN_eq, ↓qUn_eq, ↓qNeg_eq, ↓qB_eq, ↓qNotT_eq, ↓qAndT_eq, ↓qOrT_eq, ↓qAndV_eq, ↓qOrV_eq, ↓qNotV_eq, ↓qIf_eq, ↓qNil_eq, ↓qCons_eq, ↓qTup_eq, ↓qLst_eq, ↓qPart_eq, ↓qNoPart_eq, ↓qSl_eq, ↓qNext_eq, ↓qSeq_eq, ↓qBreak_eq, ↓qCont_eq, ↓qDrop_eq, ↓qRet_eq, ↓qRetN_eq, ↓qIfS_eq, ↓qNever_eq, ↓qSet_eq, ↓qOwn_eq, ↓qFreeze_eq, ↓qApp_eq, ↓qPar_eq, ↓qUnp_eq, ↓qUnpL_eq, ↓qFldS_eq, ↓qForL_eq, ↓qForT_eq, ↓qForR1_eq, ↓qForR2_eq, ↓qCall_eq, ↓qMake_eq, ↓qMeth_eq, ↓qProp_eq, ↓qCB_eq, ↓cAbs_eq, ↓cInt_eq, ↓cGcd_eq, ↓cLen_eq, ↓cLenS_eq, ↓qBits_eq, ↓qIsi_eq, ↓qBin_eq, ↓qUna_eq, ↓cAbsO_eq, ↓qEqO_eq, ↓qRaise_eq, ↓qTry_eq, ↓qXi_eq, ↓qLenO_eq, ↓qForR3_eq, ↓qIx_l, ↓qIx_t, ↓qFld_eq, ↓qXf_eq, ↓qSetIx_eq, ↓qIxO_eq, ↓qEqD_eq, ↓tryD_nx, ↓tryD_rt, ↓tryD_bk, ↓tryD_ct, ↓tryD_ex, ↓endsP_nx, ↓endsP_rt, ↓endsP_ex, ↓endsI_nx, ↓endsI_rt, ↓endsI_ex, ↓iAdd, ↓iSub, ↓iMul, ↓iDiv, ↓iMod, ↓iPow, ↓iLt, ↓iLe, ↓iGt, ↓iGe, atI_l0, atI_l1, atI_l2, atI_l3, atI_l4, atI_l5, atI_l6, atI_l7, atI_l8, atI_l9, atI_l10, atI_l11, atI_l12, lookup_hd, lookup_tl, putP_nil, putP_hd, putP_tl, List.lookup_nil, true_and, and_true, ↓reduceIte, if_true, if_false, exists_eq_left', exists_eq_left, Option.some.injEq, Sl.ins.injEq, Bool.false_xor, Bool.true_xor, beq_iff_eq, decide_eq_true_eq, Bool.not_true, Bool.not_false, Bool.false_eq_true, Nat.reduceLeDiff, Nat.reduceLT, Bool.not_eq_true', beq_eq_false_iff_ne, decide_eq_false_iff_not, reduceCtorEq, ne_eq, not_false_eq_true, not_true_eq_false, true_imp_iff, false_imp_iff, forall_const, beq_self_eq_true, Bool.and_self, isiInt, isiBool, isiStr, isiC, nfC, inL, startP, startI, setAll, List.map_cons, List.map_nil, List.length_cons, List.length_nil, List.cons_append, List.nil_append, List.append_nil, List.replicate, List.getElem?_cons_zero, List.getElem?_cons_succ, List.set_cons_zero, List.set_cons_succ, Nat.reduceSub, Nat.reduceAdd, List.getD_cons_zero]
    exact h

theorem ok_law_dues (T : Txt K mg a) (S : Fs K a d) : FnOk P w K mg base (L2.CX P w) 3 a.f_law_dues d.d_law_dues ["p", "q"] (spP K (P_law_dues a)) := by
  refine fa_q (k := 2) S.F_law_dues sc_law_dues (len_law_dues a) (fun cdv A outer s H E hr =>
    (jss_cons (js_set 2 sc_law_dues.nd (je_mul (je_ix (je_var 0) je_int) (je_ix (je_var 1) je_int)))
      (jss_cons (js_set 3 sc_law_dues.nd (je_call (ok_law_ratio T S) (hr.mono (by decide)) T.mg_law_ratio S.F_law_ratio.kp S.B_law_ratio .nil (fun _ => .nil) (tkOf (takes_of rfl rfl rfl rfl)) (ja_cons (je_add (je_mul (je_ix (je_var 0) je_int) (je_ix (je_var 1) je_int)) (je_mul (je_ix (je_var 1) je_int) (je_ix (je_var 0) je_int))) (ja_cons (je_var 2) ja_nil))))
      (jss_cons (js_set 4 sc_law_dues.nd (je_call (ok_law_ratio T S) (hr.mono (by decide)) T.mg_law_ratio S.F_law_ratio.kp S.B_law_ratio .nil (fun _ => .nil) (tkOf (takes_of rfl rfl rfl rfl)) (ja_cons (je_sub (je_mul (je_ix (je_var 0) je_int) (je_ix (je_var 1) je_int)) (je_mul (je_ix (je_var 1) je_int) (je_ix (je_var 0) je_int))) (ja_cons (je_var 2) ja_nil))))
      (jss_one (js_ret (je_lst (ja_cons (je_var 3) (ja_cons (je_var 4) (ja_cons (je_tup (ja_cons (je_neg (je_ix (je_var 4) je_int)) (ja_cons (je_ix (je_var 4) je_int) ja_nil))) (ja_cons (je_call (ok_law_ratio T S) (hr.mono (by decide)) T.mg_law_ratio S.F_law_ratio.kp S.B_law_ratio .nil (fun _ => .nil) (tkOf (takes_of rfl rfl rfl rfl)) (ja_cons (je_mul (je_ix (je_var 0) je_int) (je_ix (je_var 1) je_int)) (ja_cons (je_var 2) ja_nil))) ja_nil))))))))))) ?pure
  case pure =>
    rintro xs y Q ⟨p0, p1, q0, q1, rfl, ⟨h1, h2, h3, h4⟩, hp, hq, h⟩
    simp (disch := decide) only [↓qVar_eq, ↓qC_eq, ↓qOp_eq, ↓qI_eq, ↓qI0_eq, ↓qEq_eq, ↓qIsN_eq, ↓qUn_eq, ↓qNeg_eq, ↓qB_eq, ↓qNotT_eq, ↓qAndT_eq, ↓qOrT_eq, ↓qAndV_eq, ↓qOrV_eq, ↓qNotV_eq, ↓qIf_eq, ↓qNil_eq, ↓qCons_eq, ↓qTup_eq, ↓qLst_eq, ↓qPart_eq, ↓qNoPart_eq, ↓qSl_eq, ↓qNext_eq, ↓qSeq_eq, ↓qBreak_eq, ↓qCont_eq, ↓qDrop_eq, ↓qRet_eq, ↓qRetN_eq, ↓qIfS_eq, ↓qNever_eq, ↓qSet_eq, ↓qOwn_eq, ↓qFreeze_eq, ↓qApp_eq, ↓qPar_eq, ↓qUnp_eq, ↓qUnpL_eq, ↓qFldS_eq, ↓qForL_eq, ↓qForT_eq, ↓qForR1_eq, ↓qForR2_eq, ↓qCall_eq, ↓qMake_eq, ↓qMeth_eq, ↓qProp_eq, ↓qCB_eq, ↓cAbs_eq, ↓cInt_eq, ↓cGcd_eq, ↓cLen_eq, ↓cLenS_eq, ↓qBits_eq, ↓qIsi_eq, ↓qBin_eq, ↓qUna_eq, ↓cAbsO_eq, ↓qEqO_eq, ↓qRaise_eq, ↓qTry_eq, ↓qXi_eq, ↓qLenO_eq, ↓qForR3_eq, ↓qIx_l, ↓qIx_t, ↓qFld_eq, ↓qXf_eq, ↓qSetIx_eq, ↓qIxO_eq, ↓qEqD_eq, ↓tryD_nx, ↓tryD_rt, ↓tryD_bk, ↓tryD_ct, ↓tryD_ex, ↓endsP_nx, ↓endsP_rt, ↓endsP_ex, ↓endsI_nx, ↓endsI_rt, ↓endsI_ex, ↓iAdd, ↓iSub, ↓iMul, ↓iDiv, ↓iMod, ↓iPow, ↓iLt, ↓iLe, ↓iGt, ↓iGe, atI_l0, atI_l1, atI_l2, atI_l3, atI_l4, atI_l5, atI_l6, atI_l7, atI_l8, atI_l9, atI_l10, atI_l11, atI_l12, lookup_hd, lookup_tl, putP_nil, putP_hd, putP_tl, List.lookup_nil, true_and, and_true, ↓reduceIte, if_true, if_false, exists_eq_left', exists_eq_left, Option.some.injEq, Sl.ins.injEq, Bool.false_xor, Bool.true_xor, beq_iff_eq, decide_eq_true_eq, Bool.not_true, Bool.not_false, Bool.false_eq_true, Nat.reduceLeDiff, Nat.reduceLT, Bool.not_eq_true', beq_eq_false_iff_ne, decide_eq_false_iff_not, reduceCtorEq, ne_eq, not_false_eq_true, not_true_eq_false, true_imp_iff, false_imp_iff, forall_const, beq_self_eq_true, Bool.and_self, isiInt, isiBool, isiStr, isiC, nfC, inL, startP, startI, setAll, List.map_cons, List.map_nil, List.length_cons, List.length_nil, List.cons_append, List.nil_append, List.append_nil, List.replicate, List.getElem?_cons_zero, List.getElem?_cons_succ, List.set_cons_zero, List.set_cons_succ, Nat.reduceSub, Nat.reduceAdd, List.getD_cons_zero, ↓i_ratio]
    have hb : p1 * q1 ≠ 0 := Int.mul_ne_zero hp hq
    have hs : Sz 8000 (p1 * q1) := (h2.mul h4).mono (by decide)
    exact ⟨mulW h2 h4 (by decide), mulW h1 h4 (by decide), mulW h3 h2 (by decide), hb, hs, mulW h1 h4 (by decide), mulW h3 h2 (by decide), hb, hs, mulW h1 h3 (by decide), hb, hs, h⟩

theorem ok_law_results (T : Txt K mg a) (S : Fs K a d) : FnOk P w K mg base (L2.CX P w) 7 a.f_law_results d.d_law_results ["a", "b", "p", "dues"] (spP K (P_law_results a)) := by
  refine fa_q (k := 6) S.F_law_results sc_law_results (len_law_results a) (fun cdv A outer s H E hr =>
    (jss_cons (js_if (jt_w (jw_or (jt_not (jt_val (je_call (ok_law_is T S) (hr.mono (by decide)) T.mg_law_is S.F_law_is.kp S.B_law_is .nil (fun _ => .nil) (tkOf (takes_of rfl rfl rfl rfl)) (ja_cons (je_bin T.sf_Ratio T.fi_Ratio_add T.isf_Ratio_add (ok_Ratio_add T S) (hr.mono (by decide)) S.B_Ratio_add (tkOf (takes_of rfl rfl rfl rfl)) (je_var 0) (je_var 1)) (ja_cons (je_ix (je_var 3) je_int) ja_nil))))) (jw_or1 (jt_not (jt_val (je_call (ok_law_is T S) (hr.mono (by decide)) T.mg_law_is S.F_law_is.kp S.B_law_is .nil (fun _ => .nil) (tkOf (takes_of rfl rfl rfl rfl)) (ja_cons (je_bin T.sf_Ratio T.fi_Ratio_add T.isf_Ratio_add (ok_Ratio_add T S) (hr.mono (by decide)) S.B_Ratio_add (tkOf (takes_of rfl rfl rfl rfl)) (je_var 1) (je_var 0)) (ja_cons (je_ix (je_var 3) je_int) ja_nil)))))))) (jss_one (js_ret je_bl)) jss_nil)
      (jss_cons (js_if (jt_w (jw_or (jt_not (jt_val (je_call (ok_law_is T S) (hr.mono (by decide)) T.mg_law_is S.F_law_is.kp S.B_law_is .nil (fun _ => .nil) (tkOf (takes_of rfl rfl rfl rfl)) (ja_cons (je_bin T.sf_Ratio T.fi_Ratio_sub T.isf_Ratio_sub (ok_Ratio_sub T S) (hr.mono (by decide)) S.B_Ratio_sub (tkOf (takes_of rfl rfl rfl rfl)) (je_var 0) (je_var 1)) (ja_cons (je_ix (je_var 3) je_int) ja_nil))))) (jw_or1 (jt_not (jt_val (je_call (ok_law_is T S) (hr.mono (by decide)) T.mg_law_is S.F_law_is.kp S.B_law_is .nil (fun _ => .nil) (tkOf (takes_of rfl rfl rfl rfl)) (ja_cons (je_bin T.sf_Ratio T.fi_Ratio_sub T.isf_Ratio_sub (ok_Ratio_sub T S) (hr.mono (by decide)) S.B_Ratio_sub (tkOf (takes_of rfl rfl rfl rfl)) (je_var 1) (je_var 0)) (ja_cons (je_ix (je_var 3) je_int) ja_nil)))))))) (jss_one (js_ret je_bl)) jss_nil)
      (jss_cons (js_if (jt_w (jw_or (jt_not (jt_val (je_call (ok_law_is T S) (hr.mono (by decide)) T.mg_law_is S.F_law_is.kp S.B_law_is .nil (fun _ => .nil) (tkOf (takes_of rfl rfl rfl rfl)) (ja_cons (je_bin T.sf_Ratio T.fi_Ratio_mul T.isf_Ratio_mul (ok_Ratio_mul T S) (hr.mono (by decide)) S.B_Ratio_mul (tkOf (takes_of rfl rfl rfl rfl)) (je_var 0) (je_var 1)) (ja_cons (je_ix (je_var 3) je_int) ja_nil))))) (jw_or1 (jt_not (jt_val (je_call (ok_law_is T S) (hr.mono (by decide)) T.mg_law_is S.F_law_is.kp S.B_law_is .nil (fun _ => .nil) (tkOf (takes_of rfl rfl rfl rfl)) (ja_cons (je_bin T.sf_Ratio T.fi_Ratio_mul T.isf_Ratio_mul (ok_Ratio_mul T S) (hr.mono (by decide)) S.B_Ratio_mul (tkOf (takes_of rfl rfl rfl rfl)) (je_var 1) (je_var 0)) (ja_cons (je_ix (je_var 3) je_int) ja_nil)))))))) (jss_one (js_ret je_bl)) jss_nil)
      (jss_one (js_ret (je_and (je_call (ok_law_is T S) (hr.mono (by decide)) T.mg_law_is S.F_law_is.kp S.B_law_is .nil (fun _ => .nil) (tkOf (takes_of rfl rfl rfl rfl)) (ja_cons (je_una T.fi_Ratio_neg T.isf_Ratio_neg (ok_Ratio_neg T S) (hr.mono (by decide)) S.B_Ratio_neg (je_var 0)) (ja_cons (je_tup (ja_cons (je_neg (je_ix (je_var 2) je_int)) (ja_cons (je_ix (je_var 2) je_int) ja_nil))) ja_nil))) (je_one (je_call (ok_law_is T S) (hr.mono (by decide)) T.mg_law_is S.F_law_is.kp S.B_law_is .nil (fun _ => .nil) (tkOf (takes_of rfl rfl rfl rfl)) (ja_cons (je_absO T.fi_Ratio_abs T.isf_Ratio_abs (ok_Ratio_abs T S) (hr.mono (by decide)) S.B_Ratio_abs T.b_abs (ja_cons (je_var 0) ja_nil)) (ja_cons (je_tup (ja_cons (je_abs T.b_abs (ja_cons (je_ix (je_var 2) je_int) ja_nil)) (ja_cons (je_ix (je_var 2) je_int) ja_nil))) ja_nil))))))))))) ?pure
  case pure =>
    rintro xs y Q ⟨p0, p1, q0, q1, rfl, ⟨⟨h1, h2, h3, h4⟩, hp, hq⟩, h⟩
    have z1 := h1.mono (show 3500 ≤ 4000 by decide)
    have z2 := h2.mono (show 3500 ≤ 4000 by decide)
    have z3 := h3.mono (show 3500 ≤ 4000 by decide)
    have z4 := h4.mono (show 3500 ≤ 4000 by decide)
    have np : p1 ≠ 0 := Int.ne_of_gt hp.1
    have nq : q1 ≠ 0 := Int.ne_of_gt hq.1
    have c1 : q0 * p1 + p0 * q1 = p0 * q1 + q0 * p1 := Int.add_comm _ _
    have c2 : q1 * p1 = p1 * q1 := Int.mul_comm _ _
    have c3 : q0 * p1 - p0 * q1 = -(p0 * q1 - q0 * p1) := (Int.neg_sub _ _).symm
    have c4 : q0 * p0 = p0 * q0 := Int.mul_comm _ _
    have e1 : nT (if p0 < 0 then -p0 else p0) p1 = (if p0 < 0 then -p0 else p0) ∧ nB (if p0 < 0 then -p0 else p0) p1 = p1 := by
      split
      · exact hp.neg.2
      · exact hp.2
    simp (disch := decide) only [↓qVar_eq, ↓qC_eq, ↓qOp_eq, ↓qI_eq, ↓qI0_eq, ↓qEq_eq, ↓qIsN_eq, ↓qUn_eq, ↓qNeg_eq, ↓qB_eq, ↓qNotT_eq, ↓qAndT_eq, ↓qOrT_eq, ↓qAndV_eq, ↓qOrV_eq, ↓qNotV_eq, ↓qIf_eq, ↓qNil_eq, ↓qCons_eq, ↓qTup_eq, ↓qLst_eq, ↓qPart_eq, ↓qNoPart_eq, ↓qSl_eq, ↓qNext_eq, ↓qSeq_eq, ↓qBreak_eq, ↓qCont_eq, ↓qDrop_eq, ↓qRet_eq, ↓qRetN_eq, ↓qIfS_eq, ↓qNever_eq, ↓qSet_eq, ↓qOwn_eq, ↓qFreeze_eq, ↓qApp_eq, ↓qPar_eq, ↓qUnp_eq, ↓qUnpL_eq, ↓qFldS_eq, ↓qForL_eq, ↓qForT_eq, ↓qForR1_eq, ↓qForR2_eq, ↓qCall_eq, ↓qMake_eq, ↓qMeth_eq, ↓qProp_eq, ↓qCB_eq, ↓cAbs_eq, ↓cInt_eq, ↓cGcd_eq, ↓cLen_eq, ↓cLenS_eq, ↓qBits_eq, ↓qIsi_eq, ↓qBin_eq, ↓qUna_eq, ↓cAbsO_eq, ↓qEqO_eq, ↓qRaise_eq, ↓qTry_eq, ↓qXi_eq, ↓qLenO_eq, ↓qForR3_eq, ↓qIx_l, ↓qIx_t, ↓qFld_eq, ↓qXf_eq, ↓qSetIx_eq, ↓qIxO_eq, ↓qEqD_eq, ↓tryD_nx, ↓tryD_rt, ↓tryD_bk, ↓tryD_ct, ↓tryD_ex, ↓endsP_nx, ↓endsP_rt, ↓endsP_ex, ↓endsI_nx, ↓endsI_rt, ↓endsI_ex, ↓iAdd, ↓iSub, ↓iMul, ↓iDiv, ↓iMod, ↓iPow, ↓iLt, ↓iLe, ↓iGt, ↓iGe, atI_l0, atI_l1, atI_l2, atI_l3, atI_l4, atI_l5, atI_l6, atI_l7, atI_l8, atI_l9, atI_l10, atI_l11, atI_l12, lookup_hd, lookup_tl, putP_nil, putP_hd, putP_tl, List.lookup_nil, true_and, and_true, ↓reduceIte, if_true, if_false, exists_eq_left', exists_eq_left, Option.some.injEq, Sl.ins.injEq, Bool.false_xor, Bool.true_xor, beq_iff_eq, decide_eq_true_eq, Bool.not_true, Bool.not_false, Bool.false_eq_true, Nat.reduceLeDiff, Nat.reduceLT, Bool.not_eq_true', beq_eq_false_iff_ne, decide_eq_false_iff_not, reduceCtorEq, ne_eq, not_false_eq_true, not_true_eq_false, true_imp_iff, false_imp_iff, forall_const, beq_self_eq_true, Bool.and_self, isiInt, isiBool, isiStr, isiC, nfC, inL, startP, startI, setAll, List.map_cons, List.map_nil, List.length_cons, List.length_nil, List.cons_append, List.nil_append, List.append_nil, List.replicate, List.getElem?_cons_zero, List.getElem?_cons_succ, List.set_cons_zero, List.set_cons_succ, Nat.reduceSub, Nat.reduceAdd, List.getD_cons_zero, ↓i_add, ↓i_sub, ↓i_mul, ↓i_neg, ↓i_abs, ↓i_is, dueL, c1, c2, c3, c4, e1.1, e1.2, nT_neg, nB_neg, hp.2.1, hp.2.2, z1, z2, z3, z4, np, nq]
    exact h

theorem ok_law_quotient (T : Txt K mg a) (S : Fs K a d) : FnOk P w K mg base (L2.CX P w) 6 a.f_law_quotient d.d_law_quotient ["a", "b", "p", "q"] (spP K (P_law_quotient a)) := by
  refine fa_q (k := 5) S.F_law_quotient sc_law_quotient (len_law_quotient a) (fun cdv A outer s H E hr =>
    (jss_cons (js_set 4 sc_law_quotient.nd (je_lst ja_nil))
      (jss_cons (js_set 5 sc_law_quotient.nd je_non)
      (jss_cut (js_try 6 (r := fun C => if C = a.C_ZeroBottom then some true else none) sc_law_quotient.nd ⟨rfl, by decide, .inl T.mg_ZeroBottom⟩ (fun C b h => by obtain ⟨rfl, rfl⟩ := one_c h; exact T.xe_ZeroBottom) (takes_of rfl rfl rfl rfl) (fun W1 pn xe tk1 hp1 => (jss_one (js_set 5 sc_law_quotient.nd (je_meth (je_var 0) T.cl_Ratio T.me_Ratio_over (ok_Ratio_over T S) (hr.mono (by decide)) S.B_Ratio_over .nil (fun _ => .nil) (tkOf tk1) (ja_cons (je_var 1) ja_nil)))))
        (fun xa oe cls xd pn hz hf => (jss_one (js_set 4 sc_law_quotient.nd (je_lst (ja_cons (je_xf 6 (ok := fun C => decide (C = a.C_ZeroBottom)) (fun C h => by have h := of_decide_eq_true h; subst h; exact ⟨T.xf_ZeroBottom, T.na_ZeroBottom_word⟩) hz hf) (ja_cons (je_xiC 6 (r := fun C => if C = a.C_ZeroBottom then some true else none) (fun C b h => by obtain ⟨rfl, rfl⟩ := one_c h; exact ⟨T.xc_ZeroBottom, T.xk_ZeroBottom_LastrowsError⟩) T.b_isinstance hz hf T.mg_LastrowsError) (ja_cons (je_xiT 6 (r := fun C => if C = a.C_ZeroBottom then some true else none) (fun C b h => by obtain ⟨rfl, rfl⟩ := one_c h; exact ⟨T.xc_ZeroBottom, T.xk_ZeroBottom_ValueError⟩) T.b_isinstance hz hf T.b_ValueError) (ja_cons (je_xiC 6 (r := fun C => if C = a.C_ZeroBottom then some false else none) (fun C b h => by obtain ⟨rfl, rfl⟩ := one_c h; exact ⟨T.xc_ZeroBottom, T.xk_ZeroBottom_Empty⟩) T.b_isinstance hz hf T.mg_Empty) (ja_cons (je_xiC 6 (r := fun C => if C = a.C_ZeroBottom then some false else none) (fun C b h => by obtain ⟨rfl, rfl⟩ := one_c h; exact ⟨T.xc_ZeroBottom, T.xk_ZeroBottom_BadText⟩) T.b_isinstance hz hf T.mg_BadText) ja_nil))))))))))
      (jss_cons (js_if (jt_eq (je_ix (je_var 3) je_int) je_int) (jss_one (js_ret (je_and (je_isN (je_var 5) je_non) (je_one (je_eqD hr (je_var 4) (je_lst (ja_cons je_str (ja_cons je_bl (ja_cons je_bl (ja_cons je_bl (ja_cons je_bl ja_nil))))))))))) jss_nil)
      (jss_one (js_ret (je_and (je_eqD hr (je_var 4) (je_lst ja_nil)) (je_one (je_call (ok_law_is T S) (hr.mono (by decide)) T.mg_law_is S.F_law_is.kp S.B_law_is .nil (fun _ => .nil) (tkOf (takes_of rfl rfl rfl rfl)) (ja_cons (je_var 5) (ja_cons (je_call (ok_law_ratio T S) (hr.mono (by decide)) T.mg_law_ratio S.F_law_ratio.kp S.B_law_ratio .nil (fun _ => .nil) (tkOf (takes_of rfl rfl rfl rfl)) (ja_cons (je_mul (je_ix (je_var 2) je_int) (je_ix (je_var 3) je_int)) (ja_cons (je_mul (je_ix (je_var 2) je_int) (je_ix (je_var 3) je_int)) ja_nil))) ja_nil)))))))))))) ?pure
  case pure =>
    rintro xs y Q ⟨p0, p1, q0, q1, rfl, ⟨⟨h1, h2, h3, h4⟩, hp, hq⟩, h⟩
    have z1 := h1.mono (show 3500 ≤ 4000 by decide)
    have z2 := h2.mono (show 3500 ≤ 4000 by decide)
    have z3 := h3.mono (show 3500 ≤ 4000 by decide)
    have z4 := h4.mono (show 3500 ≤ 4000 by decide)
    have np : p1 ≠ 0 := Int.ne_of_gt hp.1
    have nq : q1 ≠ 0 := Int.ne_of_gt hq.1
    simp (disch := decide) only [↓qVar_eq, ↓qC_eq, ↓qOp_eq, ↓qI_eq, ↓qI0_eq, ↓qEq_eq, ↓qIsN_eq, ↓qUn_eq, ↓qNeg_eq, ↓qB_eq, ↓qNotT_eq, ↓qAndT_eq, ↓qOrT_eq, ↓qAndV_eq, ↓qOrV_eq, ↓qNotV_eq, ↓qIf_eq, ↓qNil_eq, ↓qCons_eq, ↓qTup_eq, ↓qLst_eq, ↓qPart_eq, ↓qNoPart_eq, ↓qSl_eq, ↓qNext_eq, ↓qSeq_eq, ↓qBreak_eq, ↓qCont_eq, ↓qDrop_eq, ↓qRet_eq, ↓qRetN_eq, ↓qIfS_eq, ↓qNever_eq, ↓qSet_eq, ↓qOwn_eq, ↓qFreeze_eq, ↓qApp_eq, ↓qPar_eq, ↓qUnp_eq, ↓qUnpL_eq, ↓qFldS_eq, ↓qForL_eq, ↓qForT_eq, ↓qForR1_eq, ↓qForR2_eq, ↓qCall_eq, ↓qMake_eq, ↓qMeth_eq, ↓qProp_eq, ↓qCB_eq, ↓cAbs_eq, ↓cInt_eq, ↓cGcd_eq, ↓cLen_eq, ↓cLenS_eq, ↓qBits_eq, ↓qIsi_eq, ↓qBin_eq, ↓qUna_eq, ↓cAbsO_eq, ↓qEqO_eq, ↓qRaise_eq, ↓qTry_eq, ↓qXi_eq, ↓qLenO_eq, ↓qForR3_eq, ↓qIx_l, ↓qIx_t, ↓qFld_eq, ↓qXf_eq, ↓qSetIx_eq, ↓qIxO_eq, ↓qEqD_eq, ↓tryD_nx, ↓tryD_rt, ↓tryD_bk, ↓tryD_ct, ↓tryD_ex, ↓endsP_nx, ↓endsP_rt, ↓endsP_ex, ↓endsI_nx, ↓endsI_rt, ↓endsI_ex, ↓iAdd, ↓iSub, ↓iMul, ↓iDiv, ↓iMod, ↓iPow, ↓iLt, ↓iLe, ↓iGt, ↓iGe, atI_l0, atI_l1, atI_l2, atI_l3, atI_l4, atI_l5, atI_l6, atI_l7, atI_l8, atI_l9, atI_l10, atI_l11, atI_l12, lookup_hd, lookup_tl, putP_nil, putP_hd, putP_tl, List.lookup_nil, true_and, and_true, ↓reduceIte, if_true, if_false, exists_eq_left', exists_eq_left, Option.some.injEq, Sl.ins.injEq, Bool.false_xor, Bool.true_xor, beq_iff_eq, decide_eq_true_eq, Bool.not_true, Bool.not_false, Bool.false_eq_true, Nat.reduceLeDiff, Nat.reduceLT, Bool.not_eq_true', beq_eq_false_iff_ne, decide_eq_false_iff_not, reduceCtorEq, ne_eq, not_false_eq_true, not_true_eq_false, true_imp_iff, false_imp_iff, forall_const, beq_self_eq_true, Bool.and_self, isiInt, isiBool, isiStr, isiC, nfC, inL, startP, startI, setAll, List.map_cons, List.map_nil, List.length_cons, List.length_nil, List.cons_append, List.nil_append, List.append_nil, List.replicate, List.getElem?_cons_zero, List.getElem?_cons_succ, List.set_cons_zero, List.set_cons_succ, Nat.reduceSub, Nat.reduceAdd, List.getD_cons_zero]
    by_cases z : q0 = 0
    · subst z
      refine ⟨fun ρ => ρ = [some (.pv (rat a.C_Ratio p0 p1)), some (.pv (rat a.C_Ratio 0 q1)), some (.pv (.tup [.int p0, .int p1])), some (.pv (.tup [.int 0, .int q1])), some (.pv (.lst [.str "bottom", .bl true, .bl true, .bl false, .bl false])), some (.pv .non), none], ?_, ?_⟩
      · simp (disch := decide) only [↓qVar_eq, ↓qC_eq, ↓qOp_eq, ↓qI_eq, ↓qI0_eq, ↓qEq_eq, ↓qIsN_eq, ↓qUn_eq, ↓qNeg_eq, ↓qB_eq, ↓qNotT_eq, ↓qAndT_eq, ↓qOrT_eq, ↓qAndV_eq, ↓qOrV_eq, ↓qNotV_eq, ↓qIf_eq, ↓qNil_eq, ↓qCons_eq, ↓qTup_eq, ↓qLst_eq, ↓qPart_eq, ↓qNoPart_eq, ↓qSl_eq, ↓qNext_eq, ↓qSeq_eq, ↓qBreak_eq, ↓qCont_eq, ↓qDrop_eq, ↓qRet_eq, ↓qRetN_eq, ↓qIfS_eq, ↓qNever_eq, ↓qSet_eq, ↓qOwn_eq, ↓qFreeze_eq, ↓qApp_eq, ↓qPar_eq, ↓qUnp_eq, ↓qUnpL_eq, ↓qFldS_eq, ↓qForL_eq, ↓qForT_eq, ↓qForR1_eq, ↓qForR2_eq, ↓qCall_eq, ↓qMake_eq, ↓qMeth_eq, ↓qProp_eq, ↓qCB_eq, ↓cAbs_eq, ↓cInt_eq, ↓cGcd_eq, ↓cLen_eq, ↓cLenS_eq, ↓qBits_eq, ↓qIsi_eq, ↓qBin_eq, ↓qUna_eq, ↓cAbsO_eq, ↓qEqO_eq, ↓qRaise_eq, ↓qTry_eq, ↓qXi_eq, ↓qLenO_eq, ↓qForR3_eq, ↓qIx_l, ↓qIx_t, ↓qFld_eq, ↓qXf_eq, ↓qSetIx_eq, ↓qIxO_eq, ↓qEqD_eq, ↓tryD_nx, ↓tryD_rt, ↓tryD_bk, ↓tryD_ct, ↓tryD_ex, ↓endsP_nx, ↓endsP_rt, ↓endsP_ex, ↓endsI_nx, ↓endsI_rt, ↓endsI_ex, ↓iAdd, ↓iSub, ↓iMul, ↓iDiv, ↓iMod, ↓iPow, ↓iLt, ↓iLe, ↓iGt, ↓iGe, atI_l0, atI_l1, atI_l2, atI_l3, atI_l4, atI_l5, atI_l6, atI_l7, atI_l8, atI_l9, atI_l10, atI_l11, atI_l12, lookup_hd, lookup_tl, putP_nil, putP_hd, putP_tl, List.lookup_nil, true_and, and_true, ↓reduceIte, if_true, if_false, exists_eq_left', exists_eq_left, Option.some.injEq, Sl.ins.injEq, Bool.false_xor, Bool.true_xor, beq_iff_eq, decide_eq_true_eq, Bool.not_true, Bool.not_false, Bool.false_eq_true, Nat.reduceLeDiff, Nat.reduceLT, Bool.not_eq_true', beq_eq_false_iff_ne, decide_eq_false_iff_not, reduceCtorEq, ne_eq, not_false_eq_true, not_true_eq_false, true_imp_iff, false_imp_iff, forall_const, beq_self_eq_true, Bool.and_self, isiInt, isiBool, isiStr, isiC, nfC, inL, startP, startI, setAll, List.map_cons, List.map_nil, List.length_cons, List.length_nil, List.cons_append, List.nil_append, List.append_nil, List.replicate, List.getElem?_cons_zero, List.getElem?_cons_succ, List.set_cons_zero, List.set_cons_succ, Nat.reduceSub, Nat.reduceAdd, List.getD_cons_zero, ↓i_over, zb, z1, z2, z3, z4, np, nq]
      · rintro ρ' rfl
        simp (disch := decide) only [↓qVar_eq, ↓qC_eq, ↓qOp_eq, ↓qI_eq, ↓qI0_eq, ↓qEq_eq, ↓qIsN_eq, ↓qUn_eq, ↓qNeg_eq, ↓qB_eq, ↓qNotT_eq, ↓qAndT_eq, ↓qOrT_eq, ↓qAndV_eq, ↓qOrV_eq, ↓qNotV_eq, ↓qIf_eq, ↓qNil_eq, ↓qCons_eq, ↓qTup_eq, ↓qLst_eq, ↓qPart_eq, ↓qNoPart_eq, ↓qSl_eq, ↓qNext_eq, ↓qSeq_eq, ↓qBreak_eq, ↓qCont_eq, ↓qDrop_eq, ↓qRet_eq, ↓qRetN_eq, ↓qIfS_eq, ↓qNever_eq, ↓qSet_eq, ↓qOwn_eq, ↓qFreeze_eq, ↓qApp_eq, ↓qPar_eq, ↓qUnp_eq, ↓qUnpL_eq, ↓qFldS_eq, ↓qForL_eq, ↓qForT_eq, ↓qForR1_eq, ↓qForR2_eq, ↓qCall_eq, ↓qMake_eq, ↓qMeth_eq, ↓qProp_eq, ↓qCB_eq, ↓cAbs_eq, ↓cInt_eq, ↓cGcd_eq, ↓cLen_eq, ↓cLenS_eq, ↓qBits_eq, ↓qIsi_eq, ↓qBin_eq, ↓qUna_eq, ↓cAbsO_eq, ↓qEqO_eq, ↓qRaise_eq, ↓qTry_eq, ↓qXi_eq, ↓qLenO_eq, ↓qForR3_eq, ↓qIx_l, ↓qIx_t, ↓qFld_eq, ↓qXf_eq, ↓qSetIx_eq, ↓qIxO_eq, ↓qEqD_eq, ↓tryD_nx, ↓tryD_rt, ↓tryD_bk, ↓tryD_ct, ↓tryD_ex, ↓endsP_nx, ↓endsP_rt, ↓endsP_ex, ↓endsI_nx, ↓endsI_rt, ↓endsI_ex, ↓iAdd, ↓iSub, ↓iMul, ↓iDiv, ↓iMod, ↓iPow, ↓iLt, ↓iLe, ↓iGt, ↓iGe, atI_l0, atI_l1, atI_l2, atI_l3, atI_l4, atI_l5, atI_l6, atI_l7, atI_l8, atI_l9, atI_l10, atI_l11, atI_l12, lookup_hd, lookup_tl, putP_nil, putP_hd, putP_tl, List.lookup_nil, true_and, and_true, ↓reduceIte, if_true, if_false, exists_eq_left', exists_eq_left, Option.some.injEq, Sl.ins.injEq, Bool.false_xor, Bool.true_xor, beq_iff_eq, decide_eq_true_eq, Bool.not_true, Bool.not_false, Bool.false_eq_true, Nat.reduceLeDiff, Nat.reduceLT, Bool.not_eq_true', beq_eq_false_iff_ne, decide_eq_false_iff_not, reduceCtorEq, ne_eq, not_false_eq_true, not_true_eq_false, true_imp_iff, false_imp_iff, forall_const, beq_self_eq_true, Bool.and_self, isiInt, isiBool, isiStr, isiC, nfC, inL, startP, startI, setAll, List.map_cons, List.map_nil, List.length_cons, List.length_nil, List.cons_append, List.nil_append, List.append_nil, List.replicate, List.getElem?_cons_zero, List.getElem?_cons_succ, List.set_cons_zero, List.set_cons_succ, Nat.reduceSub, Nat.reduceAdd, List.getD_cons_zero, toD, toDs]
        exact ⟨by decide +kernel, by decide +kernel, h⟩
    · refine ⟨fun ρ => ρ = [some (.pv (rat a.C_Ratio p0 p1)), some (.pv (rat a.C_Ratio q0 q1)), some (.pv (.tup [.int p0, .int p1])), some (.pv (.tup [.int q0, .int q1])), some (.pv (.lst [])), some (.pv (rat a.C_Ratio (nT (p0 * q1) (p1 * q0)) (nB (p0 * q1) (p1 * q0)))), none], ?_, ?_⟩
      · simp (disch := decide) only [↓qVar_eq, ↓qC_eq, ↓qOp_eq, ↓qI_eq, ↓qI0_eq, ↓qEq_eq, ↓qIsN_eq, ↓qUn_eq, ↓qNeg_eq, ↓qB_eq, ↓qNotT_eq, ↓qAndT_eq, ↓qOrT_eq, ↓qAndV_eq, ↓qOrV_eq, ↓qNotV_eq, ↓qIf_eq, ↓qNil_eq, ↓qCons_eq, ↓qTup_eq, ↓qLst_eq, ↓qPart_eq, ↓qNoPart_eq, ↓qSl_eq, ↓qNext_eq, ↓qSeq_eq, ↓qBreak_eq, ↓qCont_eq, ↓qDrop_eq, ↓qRet_eq, ↓qRetN_eq, ↓qIfS_eq, ↓qNever_eq, ↓qSet_eq, ↓qOwn_eq, ↓qFreeze_eq, ↓qApp_eq, ↓qPar_eq, ↓qUnp_eq, ↓qUnpL_eq, ↓qFldS_eq, ↓qForL_eq, ↓qForT_eq, ↓qForR1_eq, ↓qForR2_eq, ↓qCall_eq, ↓qMake_eq, ↓qMeth_eq, ↓qProp_eq, ↓qCB_eq, ↓cAbs_eq, ↓cInt_eq, ↓cGcd_eq, ↓cLen_eq, ↓cLenS_eq, ↓qBits_eq, ↓qIsi_eq, ↓qBin_eq, ↓qUna_eq, ↓cAbsO_eq, ↓qEqO_eq, ↓qRaise_eq, ↓qTry_eq, ↓qXi_eq, ↓qLenO_eq, ↓qForR3_eq, ↓qIx_l, ↓qIx_t, ↓qFld_eq, ↓qXf_eq, ↓qSetIx_eq, ↓qIxO_eq, ↓qEqD_eq, ↓tryD_nx, ↓tryD_rt, ↓tryD_bk, ↓tryD_ct, ↓tryD_ex, ↓endsP_nx, ↓endsP_rt, ↓endsP_ex, ↓endsI_nx, ↓endsI_rt, ↓endsI_ex, ↓iAdd, ↓iSub, ↓iMul, ↓iDiv, ↓iMod, ↓iPow, ↓iLt, ↓iLe, ↓iGt, ↓iGe, atI_l0, atI_l1, atI_l2, atI_l3, atI_l4, atI_l5, atI_l6, atI_l7, atI_l8, atI_l9, atI_l10, atI_l11, atI_l12, lookup_hd, lookup_tl, putP_nil, putP_hd, putP_tl, List.lookup_nil, true_and, and_true, ↓reduceIte, if_true, if_false, exists_eq_left', exists_eq_left, Option.some.injEq, Sl.ins.injEq, Bool.false_xor, Bool.true_xor, beq_iff_eq, decide_eq_true_eq, Bool.not_true, Bool.not_false, Bool.false_eq_true, Nat.reduceLeDiff, Nat.reduceLT, Bool.not_eq_true', beq_eq_false_iff_ne, decide_eq_false_iff_not, reduceCtorEq, ne_eq, not_false_eq_true, not_true_eq_false, true_imp_iff, false_imp_iff, forall_const, beq_self_eq_true, Bool.and_self, isiInt, isiBool, isiStr, isiC, nfC, inL, startP, startI, setAll, List.map_cons, List.map_nil, List.length_cons, List.length_nil, List.cons_append, List.nil_append, List.append_nil, List.replicate, List.getElem?_cons_zero, List.getElem?_cons_succ, List.set_cons_zero, List.set_cons_succ, Nat.reduceSub, Nat.reduceAdd, List.getD_cons_zero, ↓i_over, zb, z1, z2, z3, z4, np, nq, z]
      · rintro ρ' rfl
        simp (disch := decide) only [↓qVar_eq, ↓qC_eq, ↓qOp_eq, ↓qI_eq, ↓qI0_eq, ↓qEq_eq, ↓qIsN_eq, ↓qUn_eq, ↓qNeg_eq, ↓qB_eq, ↓qNotT_eq, ↓qAndT_eq, ↓qOrT_eq, ↓qAndV_eq, ↓qOrV_eq, ↓qNotV_eq, ↓qIf_eq, ↓qNil_eq, ↓qCons_eq, ↓qTup_eq, ↓qLst_eq, ↓qPart_eq, ↓qNoPart_eq, ↓qSl_eq, ↓qNext_eq, ↓qSeq_eq, ↓qBreak_eq, ↓qCont_eq, ↓qDrop_eq, ↓qRet_eq, ↓qRetN_eq, ↓qIfS_eq, ↓qNever_eq, ↓qSet_eq, ↓qOwn_eq, ↓qFreeze_eq, ↓qApp_eq, ↓qPar_eq, ↓qUnp_eq, ↓qUnpL_eq, ↓qFldS_eq, ↓qForL_eq, ↓qForT_eq, ↓qForR1_eq, ↓qForR2_eq, ↓qCall_eq, ↓qMake_eq, ↓qMeth_eq, ↓qProp_eq, ↓qCB_eq, ↓cAbs_eq, ↓cInt_eq, ↓cGcd_eq, ↓cLen_eq, ↓cLenS_eq, ↓qBits_eq, ↓qIsi_eq, ↓qBin_eq, ↓qUna_eq, ↓cAbsO_eq, ↓qEqO_eq, ↓qRaise_eq, ↓qTry_eq, ↓qXi_eq, ↓qLenO_eq, ↓qForR3_eq, ↓qIx_l, ↓qIx_t, ↓qFld_eq, ↓qXf_eq, ↓qSetIx_eq, ↓qIxO_eq, ↓qEqD_eq, ↓tryD_nx, ↓tryD_rt, ↓tryD_bk, ↓tryD_ct, ↓tryD_ex, ↓endsP_nx, ↓endsP_rt, ↓endsP_ex, ↓endsI_nx, ↓endsI_rt, ↓endsI_ex, ↓iAdd, ↓iSub, ↓iMul, ↓iDiv, ↓iMod, ↓iPow, ↓iLt, ↓iLe, ↓iGt, ↓iGe, atI_l0, atI_l1, atI_l2, atI_l3, atI_l4, atI_l5, atI_l6, atI_l7, atI_l8, atI_l9, atI_l10, atI_l11, atI_l12, lookup_hd, lookup_tl, putP_nil, putP_hd, putP_tl, List.lookup_nil, true_and, and_true, ↓reduceIte, if_true, if_false, exists_eq_left', exists_eq_left, Option.some.injEq, Sl.ins.injEq, Bool.false_xor, Bool.true_xor, beq_iff_eq, decide_eq_true_eq, Bool.not_true, Bool.not_false, Bool.false_eq_true, Nat.reduceLeDiff, Nat.reduceLT, Bool.not_eq_true', beq_eq_false_iff_ne, decide_eq_false_iff_not, reduceCtorEq, ne_eq, not_false_eq_true, not_true_eq_false, true_imp_iff, false_imp_iff, forall_const, beq_self_eq_true, Bool.and_self, isiInt, isiBool, isiStr, isiC, nfC, inL, startP, startI, setAll, List.map_cons, List.map_nil, List.length_cons, List.length_nil, List.cons_append, List.nil_append, List.append_nil, List.replicate, List.getElem?_cons_zero, List.getElem?_cons_succ, List.set_cons_zero, List.set_cons_succ, Nat.reduceSub, Nat.reduceAdd, List.getD_cons_zero, ↓i_is, ↓i_ratio, z, toD, toDs]
        refine ⟨by decide +kernel, by decide +kernel, ?_⟩
        rw [if_pos (by decide +kernel)]
        exact ⟨mulW h1 h4 (by decide), mulW h2 h3 (by decide), Int.mul_ne_zero np z, (h2.mul h3).mono (by decide), h⟩

theorem ok_law_order (T : Txt K mg a) (S : Fs K a d) : FnOk P w K mg base (L2.CX P w) 5 a.f_law_order d.d_law_order ["a", "b", "p", "q"] (spP K (P_law_order a)) := by
  obtain ⟨pa_Ratio_sign, pr_Ratio_sign⟩ := T.pr_Ratio_sign
  obtain ⟨pa_Ratio_is_zero, pr_Ratio_is_zero⟩ := T.pr_Ratio_is_zero
  refine fa_q (k := 4) S.F_law_order sc_law_order (len_law_order a) (fun cdv A outer s H E hr =>
    (jss_cons (js_if (jt_w (jw_or (jt_not (jt_val (je_call (ok_law_truth T S) (hr.mono (by decide)) T.mg_law_truth S.F_law_truth.kp S.B_law_truth .nil (fun _ => .nil) (tkOf (takes_of rfl rfl rfl rfl)) (ja_cons (je_meth (je_var 0) T.cl_Ratio T.me_Ratio_below (ok_Ratio_below T S) (hr.mono (by decide)) S.B_Ratio_below .nil (fun _ => .nil) (tkOf (takes_of rfl rfl rfl rfl)) (ja_cons (je_var 1) ja_nil)) (ja_cons (je_lt (je_mul (je_ix (je_var 2) je_int) (je_ix (je_var 3) je_int)) (je_mul (je_ix (je_var 3) je_int) (je_ix (je_var 2) je_int))) ja_nil))))) (jw_or1 (jt_not (jt_val (je_call (ok_law_truth T S) (hr.mono (by decide)) T.mg_law_truth S.F_law_truth.kp S.B_law_truth .nil (fun _ => .nil) (tkOf (takes_of rfl rfl rfl rfl)) (ja_cons (je_meth (je_var 0) T.cl_Ratio T.me_Ratio_below (ok_Ratio_below T S) (hr.mono (by decide)) S.B_Ratio_below .nil (fun _ => .nil) (tkOf (takes_of rfl rfl rfl rfl)) (ja_cons (je_var 0) ja_nil)) (ja_cons je_bl ja_nil)))))))) (jss_one (js_ret je_bl)) jss_nil)
      (jss_cons (js_if (jt_w (jw_or (jt_not (jt_val (je_call (ok_law_truth T S) (hr.mono (by decide)) T.mg_law_truth S.F_law_truth.kp S.B_law_truth .nil (fun _ => .nil) (tkOf (takes_of rfl rfl rfl rfl)) (ja_cons (je_eqO (nf_c (os := []) T.is_Ratio T.nf_Ratio (fun C h => nomatch h)) T.fi_Ratio_eq T.isf_Ratio_eq (ok_Ratio_eq T S) (hr.mono (by decide)) S.B_Ratio_eq (je_var 0) (je_var 1)) (ja_cons (je_and (je_eq (je_ix (je_var 2) je_int) (je_ix (je_var 3) je_int)) (je_one (je_eq (je_ix (je_var 2) je_int) (je_ix (je_var 3) je_int)))) ja_nil))))) (jw_or1 (jt_not (jt_val (je_call (ok_law_truth T S) (hr.mono (by decide)) T.mg_law_truth S.F_law_truth.kp S.B_law_truth .nil (fun _ => .nil) (tkOf (takes_of rfl rfl rfl rfl)) (ja_cons (je_eqO (nf_c (os := []) T.is_Ratio T.nf_Ratio (fun C h => nomatch h)) T.fi_Ratio_eq T.isf_Ratio_eq (ok_Ratio_eq T S) (hr.mono (by decide)) S.B_Ratio_eq (je_var 0) (je_make T.mk_Ratio (ok_Ratio_init T S) (hr.mono (by decide)) T.mg_Ratio S.B_Ratio_init .nil (fun _ => .nil) (tkOf (takes_of rfl rfl rfl rfl)) (ja_cons (je_ix (je_var 2) je_int) (ja_cons (je_ix (je_var 2) je_int) ja_nil)))) (ja_cons je_bl ja_nil)))))))) (jss_one (js_ret je_bl)) jss_nil)
      (jss_cons (js_if (jt_w (jw_or (jt_not (jt_val (je_call (ok_law_truth T S) (hr.mono (by decide)) T.mg_law_truth S.F_law_truth.kp S.B_law_truth .nil (fun _ => .nil) (tkOf (takes_of rfl rfl rfl rfl)) (ja_cons (je_neO (nf_c (os := []) T.is_Ratio T.nf_Ratio (fun C h => nomatch h)) T.ne_Ratio T.is_Ratio.hm T.fi_Ratio_eq T.isf_Ratio_eq (ok_Ratio_eq T S) (hr.mono (by decide)) S.B_Ratio_eq (je_var 0) (je_var 1)) (ja_cons (je_or (je_ne (je_ix (je_var 2) je_int) (je_ix (je_var 3) je_int)) (je_one (je_ne (je_ix (je_var 2) je_int) (je_ix (je_var 3) je_int)))) ja_nil))))) (jw_or1 (jt_not (jt_val (je_call (ok_law_truth T S) (hr.mono (by decide)) T.mg_law_truth S.F_law_truth.kp S.B_law_truth .nil (fun _ => .nil) (tkOf (takes_of rfl rfl rfl rfl)) (ja_cons (je_neO (nf_c (os := []) T.is_Ratio T.nf_Ratio (fun C h => nomatch h)) T.ne_Ratio T.is_Ratio.hm T.fi_Ratio_eq T.isf_Ratio_eq (ok_Ratio_eq T S) (hr.mono (by decide)) S.B_Ratio_eq (je_var 0) (je_make T.mk_Ratio (ok_Ratio_init T S) (hr.mono (by decide)) T.mg_Ratio S.B_Ratio_init .nil (fun _ => .nil) (tkOf (takes_of rfl rfl rfl rfl)) (ja_cons (je_ix (je_var 2) je_int) (ja_cons (je_ix (je_var 2) je_int) ja_nil)))) (ja_cons je_bl ja_nil)))))))) (jss_one (js_ret je_bl)) jss_nil)
      (jss_cons (js_if (jt_w (jw_or (jt_not (jt_val (je_call (ok_law_is_integer T S) (hr.mono (by decide)) T.mg_law_is_integer S.F_law_is_integer.kp S.B_law_is_integer .nil (fun _ => .nil) (tkOf (takes_of rfl rfl rfl rfl)) (ja_cons (je_prop (je_var 0) T.cl_Ratio pr_Ratio_sign (ok_Ratio_sign T S) (hr.mono (by decide)) S.B_Ratio_sign) ja_nil)))) (jw_or1 (jt_ne (je_prop (je_var 0) T.cl_Ratio pr_Ratio_sign (ok_Ratio_sign T S) (hr.mono (by decide)) S.B_Ratio_sign) (je_sub (je_toint T.b_int (ja_cons (je_gt (je_ix (je_var 2) je_int) je_int) ja_nil)) (je_toint T.b_int (ja_cons (je_lt (je_ix (je_var 2) je_int) je_int) ja_nil))))))) (jss_one (js_ret je_bl)) jss_nil)
      (jss_cons (js_if (jt_not (jt_val (je_call (ok_law_truth T S) (hr.mono (by decide)) T.mg_law_truth S.F_law_truth.kp S.B_law_truth .nil (fun _ => .nil) (tkOf (takes_of rfl rfl rfl rfl)) (ja_cons (je_prop (je_var 0) T.cl_Ratio pr_Ratio_is_zero (ok_Ratio_is_zero T S) (hr.mono (by decide)) S.B_Ratio_is_zero) (ja_cons (je_eq (je_ix (je_var 2) je_int) je_int) ja_nil))))) (jss_one (js_ret je_bl)) jss_nil)
      (jss_cut (js_forL 4 (passes_of rfl) rfl sc_law_order.nd (je_lst (ja_cons (je_ix (je_var 2) je_int) (ja_cons je_int (ja_cons je_int (ja_cons (je_tup (ja_cons (je_ix (je_var 2) je_int) (ja_cons (je_ix (je_var 2) je_int) ja_nil))) (ja_cons je_str (ja_cons je_non ja_nil)))))))
        (jss_one (js_if (jt_w (jw_or (jt_not (jt_val (je_call (ok_law_truth T S) (hr.mono (by decide)) T.mg_law_truth S.F_law_truth.kp S.B_law_truth .nil (fun _ => .nil) (tkOf (takes_of rfl rfl rfl rfl)) (ja_cons (je_eqO (nf_c (os := []) T.is_Ratio T.nf_Ratio (fun C h => nomatch h)) T.fi_Ratio_eq T.isf_Ratio_eq (ok_Ratio_eq T S) (hr.mono (by decide)) S.B_Ratio_eq (je_var 0) (je_var 4)) (ja_cons je_bl ja_nil))))) (jw_or1 (jt_not (jt_val (je_call (ok_law_truth T S) (hr.mono (by decide)) T.mg_law_truth S.F_law_truth.kp S.B_law_truth .nil (fun _ => .nil) (tkOf (takes_of rfl rfl rfl rfl)) (ja_cons (je_neO (nf_c (os := []) T.is_Ratio T.nf_Ratio (fun C h => nomatch h)) T.ne_Ratio T.is_Ratio.hm T.fi_Ratio_eq T.isf_Ratio_eq (ok_Ratio_eq T S) (hr.mono (by decide)) S.B_Ratio_eq (je_var 0) (je_var 4)) (ja_cons je_bl ja_nil)))))))) (jss_one (js_ret je_bl)) jss_nil)))
      (jss_one (js_ret je_bl))))))))) ?pure
  case pure =>
    rintro xs y Q ⟨p0, p1, q0, q1, rfl, ⟨⟨h1, h2, h3, h4⟩, hp, hq⟩, h⟩
    have z1 := h1.mono (show 3500 ≤ 4000 by decide)
    have z2 := h2.mono (show 3500 ≤ 4000 by decide)
    have z3 := h3.mono (show 3500 ≤ 4000 by decide)
    have z4 := h4.mono (show 3500 ≤ 4000 by decide)
    have z5 := h2.mono (show 3500 ≤ 8000 by decide)
    have np : p1 ≠ 0 := Int.ne_of_gt hp.1
    have nq : q1 ≠ 0 := Int.ne_of_gt hq.1
    refine guard (fun R hR => ?_) ?_
    · simp (disch := decide) only [↓qVar_eq, ↓qC_eq, ↓qOp_eq, ↓qI_eq, ↓qI0_eq, ↓qEq_eq, ↓qIsN_eq, ↓qUn_eq, ↓qNeg_eq, ↓qB_eq, ↓qNotT_eq, ↓qAndT_eq, ↓qOrT_eq, ↓qAndV_eq, ↓qOrV_eq, ↓qNotV_eq, ↓qIf_eq, ↓qNil_eq, ↓qCons_eq, ↓qTup_eq, ↓qLst_eq, ↓qPart_eq, ↓qNoPart_eq, ↓qSl_eq, ↓qNext_eq, ↓qSeq_eq, ↓qBreak_eq, ↓qCont_eq, ↓qDrop_eq, ↓qRet_eq, ↓qRetN_eq, ↓qIfS_eq, ↓qNever_eq, ↓qSet_eq, ↓qOwn_eq, ↓qFreeze_eq, ↓qApp_eq, ↓qPar_eq, ↓qUnp_eq, ↓qUnpL_eq, ↓qFldS_eq, ↓qForL_eq, ↓qForT_eq, ↓qForR1_eq, ↓qForR2_eq, ↓qCall_eq, ↓qMake_eq, ↓qMeth_eq, ↓qProp_eq, ↓qCB_eq, ↓cAbs_eq, ↓cInt_eq, ↓cGcd_eq, ↓cLen_eq, ↓cLenS_eq, ↓qBits_eq, ↓qIsi_eq, ↓qBin_eq, ↓qUna_eq, ↓cAbsO_eq, ↓qEqO_eq, ↓qRaise_eq, ↓qTry_eq, ↓qXi_eq, ↓qLenO_eq, ↓qForR3_eq, ↓qIx_l, ↓qIx_t, ↓qFld_eq, ↓qXf_eq, ↓qSetIx_eq, ↓qIxO_eq, ↓qEqD_eq, ↓tryD_nx, ↓tryD_rt, ↓tryD_bk, ↓tryD_ct, ↓tryD_ex, ↓endsP_nx, ↓endsP_rt, ↓endsP_ex, ↓endsI_nx, ↓endsI_rt, ↓endsI_ex, ↓iAdd, ↓iSub, ↓iMul, ↓iDiv, ↓iMod, ↓iPow, ↓iLt, ↓iLe, ↓iGt, ↓iGe, atI_l0, atI_l1, atI_l2, atI_l3, atI_l4, atI_l5, atI_l6, atI_l7, atI_l8, atI_l9, atI_l10, atI_l11, atI_l12, lookup_hd, lookup_tl, putP_nil, putP_hd, putP_tl, List.lookup_nil, true_and, and_true, ↓reduceIte, if_true, if_false, exists_eq_left', exists_eq_left, Option.some.injEq, Sl.ins.injEq, Bool.false_xor, Bool.true_xor, beq_iff_eq, decide_eq_true_eq, Bool.not_true, Bool.not_false, Bool.false_eq_true, Nat.reduceLeDiff, Nat.reduceLT, Bool.not_eq_true', beq_eq_false_iff_ne, decide_eq_false_iff_not, reduceCtorEq, ne_eq, not_false_eq_true, not_true_eq_false, true_imp_iff, false_imp_iff, forall_const, beq_self_eq_true, Bool.and_self, isiInt, isiBool, isiStr, isiC, nfC, inL, startP, startI, setAll, List.map_cons, List.map_nil, List.length_cons, List.length_nil, List.cons_append, List.nil_append, List.append_nil, List.replicate, List.getElem?_cons_zero, List.getElem?_cons_succ, List.set_cons_zero, List.set_cons_succ, Nat.reduceSub, Nat.reduceAdd, List.getD_cons_zero, ↓i_below, ↓i_truth, z1, z2, z3, z4, np, nq]
      refine ⟨mulW h1 h4 (by decide), mulW h3 h2 (by decide), ?_⟩
      simpa using hR
    refine guard (fun R hR => ?_) ?_
    · simp (disch := decide) only [↓qVar_eq, ↓qC_eq, ↓qOp_eq, ↓qI_eq, ↓qI0_eq, ↓qEq_eq, ↓qIsN_eq, ↓qUn_eq, ↓qNeg_eq, ↓qB_eq, ↓qNotT_eq, ↓qAndT_eq, ↓qOrT_eq, ↓qAndV_eq, ↓qOrV_eq, ↓qNotV_eq, ↓qIf_eq, ↓qNil_eq, ↓qCons_eq, ↓qTup_eq, ↓qLst_eq, ↓qPart_eq, ↓qNoPart_eq, ↓qSl_eq, ↓qNext_eq, ↓qSeq_eq, ↓qBreak_eq, ↓qCont_eq, ↓qDrop_eq, ↓qRet_eq, ↓qRetN_eq, ↓qIfS_eq, ↓qNever_eq, ↓qSet_eq, ↓qOwn_eq, ↓qFreeze_eq, ↓qApp_eq, ↓qPar_eq, ↓qUnp_eq, ↓qUnpL_eq, ↓qFldS_eq, ↓qForL_eq, ↓qForT_eq, ↓qForR1_eq, ↓qForR2_eq, ↓qCall_eq, ↓qMake_eq, ↓qMeth_eq, ↓qProp_eq, ↓qCB_eq, ↓cAbs_eq, ↓cInt_eq, ↓cGcd_eq, ↓cLen_eq, ↓cLenS_eq, ↓qBits_eq, ↓qIsi_eq, ↓qBin_eq, ↓qUna_eq, ↓cAbsO_eq, ↓qEqO_eq, ↓qRaise_eq, ↓qTry_eq, ↓qXi_eq, ↓qLenO_eq, ↓qForR3_eq, ↓qIx_l, ↓qIx_t, ↓qFld_eq, ↓qXf_eq, ↓qSetIx_eq, ↓qIxO_eq, ↓qEqD_eq, ↓tryD_nx, ↓tryD_rt, ↓tryD_bk, ↓tryD_ct, ↓tryD_ex, ↓endsP_nx, ↓endsP_rt, ↓endsP_ex, ↓endsI_nx, ↓endsI_rt, ↓endsI_ex, ↓iAdd, ↓iSub, ↓iMul, ↓iDiv, ↓iMod, ↓iPow, ↓iLt, ↓iLe, ↓iGt, ↓iGe, atI_l0, atI_l1, atI_l2, atI_l3, atI_l4, atI_l5, atI_l6, atI_l7, atI_l8, atI_l9, atI_l10, atI_l11, atI_l12, lookup_hd, lookup_tl, putP_nil, putP_hd, putP_tl, List.lookup_nil, true_and, and_true, ↓reduceIte, if_true, if_false, exists_eq_left', exists_eq_left, Option.some.injEq, Sl.ins.injEq, Bool.false_xor, Bool.true_xor, beq_iff_eq, decide_eq_true_eq, Bool.not_true, Bool.not_false, Bool.false_eq_true, Nat.reduceLeDiff, Nat.reduceLT, Bool.not_eq_true', beq_eq_false_iff_ne, decide_eq_false_iff_not, reduceCtorEq, ne_eq, not_false_eq_true, not_true_eq_false, true_imp_iff, false_imp_iff, forall_const, beq_self_eq_true, Bool.and_self, isiInt, isiBool, isiStr, isiC, nfC, inL, startP, startI, setAll, List.map_cons, List.map_nil, List.length_cons, List.length_nil, List.cons_append, List.nil_append, List.append_nil, List.replicate, List.getElem?_cons_zero, List.getElem?_cons_succ, List.set_cons_zero, List.set_cons_succ, Nat.reduceSub, Nat.reduceAdd, List.getD_cons_zero, ↓i_init, ↓i_truth, ↓i_eq, z1, z2, z3, z4, z5, np, nq, hp.2.1, hp.2.2]
      refine ⟨rfl, ?_⟩
      by_cases e : p0 = q0 <;> simp [e] <;> exact hR
    refine guard (fun R hR => ?_) ?_
    · simp (disch := decide) only [↓qVar_eq, ↓qC_eq, ↓qOp_eq, ↓qI_eq, ↓qI0_eq, ↓qEq_eq, ↓qIsN_eq, ↓qUn_eq, ↓qNeg_eq, ↓qB_eq, ↓qNotT_eq, ↓qAndT_eq, ↓qOrT_eq, ↓qAndV_eq, ↓qOrV_eq, ↓qNotV_eq, ↓qIf_eq, ↓qNil_eq, ↓qCons_eq, ↓qTup_eq, ↓qLst_eq, ↓qPart_eq, ↓qNoPart_eq, ↓qSl_eq, ↓qNext_eq, ↓qSeq_eq, ↓qBreak_eq, ↓qCont_eq, ↓qDrop_eq, ↓qRet_eq, ↓qRetN_eq, ↓qIfS_eq, ↓qNever_eq, ↓qSet_eq, ↓qOwn_eq, ↓qFreeze_eq, ↓qApp_eq, ↓qPar_eq, ↓qUnp_eq, ↓qUnpL_eq, ↓qFldS_eq, ↓qForL_eq, ↓qForT_eq, ↓qForR1_eq, ↓qForR2_eq, ↓qCall_eq, ↓qMake_eq, ↓qMeth_eq, ↓qProp_eq, ↓qCB_eq, ↓cAbs_eq, ↓cInt_eq, ↓cGcd_eq, ↓cLen_eq, ↓cLenS_eq, ↓qBits_eq, ↓qIsi_eq, ↓qBin_eq, ↓qUna_eq, ↓cAbsO_eq, ↓qEqO_eq, ↓qRaise_eq, ↓qTry_eq, ↓qXi_eq, ↓qLenO_eq, ↓qForR3_eq, ↓qIx_l, ↓qIx_t, ↓qFld_eq, ↓qXf_eq, ↓qSetIx_eq, ↓qIxO_eq, ↓qEqD_eq, ↓tryD_nx, ↓tryD_rt, ↓tryD_bk, ↓tryD_ct, ↓tryD_ex, ↓endsP_nx, ↓endsP_rt, ↓endsP_ex, ↓endsI_nx, ↓endsI_rt, ↓endsI_ex, ↓iAdd, ↓iSub, ↓iMul, ↓iDiv, ↓iMod, ↓iPow, ↓iLt, ↓iLe, ↓iGt, ↓iGe, atI_l0, atI_l1, atI_l2, atI_l3, atI_l4, atI_l5, atI_l6, atI_l7, atI_l8, atI_l9, atI_l10, atI_l11, atI_l12, lookup_hd, lookup_tl, putP_nil, putP_hd, putP_tl, List.lookup_nil, true_and, and_true, ↓reduceIte, if_true, if_false, exists_eq_left', exists_eq_left, Option.some.injEq, Sl.ins.injEq, Bool.false_xor, Bool.true_xor, beq_iff_eq, decide_eq_true_eq, Bool.not_true, Bool.not_false, Bool.false_eq_true, Nat.reduceLeDiff, Nat.reduceLT, Bool.not_eq_true', beq_eq_false_iff_ne, decide_eq_false_iff_not, reduceCtorEq, ne_eq, not_false_eq_true, not_true_eq_false, true_imp_iff, false_imp_iff, forall_const, beq_self_eq_true, Bool.and_self, isiInt, isiBool, isiStr, isiC, nfC, inL, startP, startI, setAll, List.map_cons, List.map_nil, List.length_cons, List.length_nil, List.cons_append, List.nil_append, List.append_nil, List.replicate, List.getElem?_cons_zero, List.getElem?_cons_succ, List.set_cons_zero, List.set_cons_succ, Nat.reduceSub, Nat.reduceAdd, List.getD_cons_zero, ↓i_init, ↓i_truth, ↓i_eq, z1, z2, z3, z4, z5, np, nq, hp.2.1, hp.2.2]
      refine ⟨rfl, ?_⟩
      by_cases e : p0 = q0 <;> simp [e] <;> exact hR
    refine guard (fun R hR => ?_) ?_
    · simp (disch := decide) only [↓qVar_eq, ↓qC_eq, ↓qOp_eq, ↓qI_eq, ↓qI0_eq, ↓qEq_eq, ↓qIsN_eq, ↓qUn_eq, ↓qNeg_eq, ↓qB_eq, ↓qNotT_eq, ↓qAndT_eq, ↓qOrT_eq, ↓qAndV_eq, ↓qOrV_eq, ↓qNotV_eq, ↓qIf_eq, ↓qNil_eq, ↓qCons_eq, ↓qTup_eq, ↓qLst_eq, ↓qPart_eq, ↓qNoPart_eq, ↓qSl_eq, ↓qNext_eq, ↓qSeq_eq, ↓qBreak_eq, ↓qCont_eq, ↓qDrop_eq, ↓qRet_eq, ↓qRetN_eq, ↓qIfS_eq, ↓qNever_eq, ↓qSet_eq, ↓qOwn_eq, ↓qFreeze_eq, ↓qApp_eq, ↓qPar_eq, ↓qUnp_eq, ↓qUnpL_eq, ↓qFldS_eq, ↓qForL_eq, ↓qForT_eq, ↓qForR1_eq, ↓qForR2_eq, ↓qCall_eq, ↓qMake_eq, ↓qMeth_eq, ↓qProp_eq, ↓qCB_eq, ↓cAbs_eq, ↓cInt_eq, ↓cGcd_eq, ↓cLen_eq, ↓cLenS_eq, ↓qBits_eq, ↓qIsi_eq, ↓qBin_eq, ↓qUna_eq, ↓cAbsO_eq, ↓qEqO_eq, ↓qRaise_eq, ↓qTry_eq, ↓qXi_eq, ↓qLenO_eq, ↓qForR3_eq, ↓qIx_l, ↓qIx_t, ↓qFld_eq, ↓qXf_eq, ↓qSetIx_eq, ↓qIxO_eq, ↓qEqD_eq, ↓tryD_nx, ↓tryD_rt, ↓tryD_bk, ↓tryD_ct, ↓tryD_ex, ↓endsP_nx, ↓endsP_rt, ↓endsP_ex, ↓endsI_nx, ↓endsI_rt, ↓endsI_ex, ↓iAdd, ↓iSub, ↓iMul, ↓iDiv, ↓iMod, ↓iPow, ↓iLt, ↓iLe, ↓iGt, ↓iGe, atI_l0, atI_l1, atI_l2, atI_l3, atI_l4, atI_l5, atI_l6, atI_l7, atI_l8, atI_l9, atI_l10, atI_l11, atI_l12, lookup_hd, lookup_tl, putP_nil, putP_hd, putP_tl, List.lookup_nil, true_and, and_true, ↓reduceIte, if_true, if_false, exists_eq_left', exists_eq_left, Option.some.injEq, Sl.ins.injEq, Bool.false_xor, Bool.true_xor, beq_iff_eq, decide_eq_true_eq, Bool.not_true, Bool.not_false, Bool.false_eq_true, Nat.reduceLeDiff, Nat.reduceLT, Bool.not_eq_true', beq_eq_false_iff_ne, decide_eq_false_iff_not, reduceCtorEq, ne_eq, not_false_eq_true, not_true_eq_false, true_imp_iff, false_imp_iff, forall_const, beq_self_eq_true, Bool.and_self, isiInt, isiBool, isiStr, isiC, nfC, inL, startP, startI, setAll, List.map_cons, List.map_nil, List.length_cons, List.length_nil, List.cons_append, List.nil_append, List.append_nil, List.replicate, List.getElem?_cons_zero, List.getElem?_cons_succ, List.set_cons_zero, List.set_cons_succ, Nat.reduceSub, Nat.reduceAdd, List.getD_cons_zero, ↓i_isint, ↓i_sign, z1, z2, z3, z4, z5, np, nq, hp.2.1, hp.2.2]
      have e : (if p0 < 0 then -1 else if p0 = 0 then 0 else 1) = ((if 0 < p0 then 1 else 0) - (if p0 < 0 then 1 else 0) : Int) := by
        by_cases e1 : p0 < 0
        · rw [if_pos e1, if_pos e1, if_neg (by omega)]
          rfl
        · rw [if_neg e1, if_neg e1]
          by_cases e2 : p0 = 0
          · rw [if_pos e2, if_neg (by omega)]
            rfl
          · rw [if_neg e2, if_pos (by omega)]
            rfl
      rw [if_neg (not_not_intro e)]
      exact hR
    refine guard (fun R hR => ?_) ?_
    · simp (disch := decide) only [↓qVar_eq, ↓qC_eq, ↓qOp_eq, ↓qI_eq, ↓qI0_eq, ↓qEq_eq, ↓qIsN_eq, ↓qUn_eq, ↓qNeg_eq, ↓qB_eq, ↓qNotT_eq, ↓qAndT_eq, ↓qOrT_eq, ↓qAndV_eq, ↓qOrV_eq, ↓qNotV_eq, ↓qIf_eq, ↓qNil_eq, ↓qCons_eq, ↓qTup_eq, ↓qLst_eq, ↓qPart_eq, ↓qNoPart_eq, ↓qSl_eq, ↓qNext_eq, ↓qSeq_eq, ↓qBreak_eq, ↓qCont_eq, ↓qDrop_eq, ↓qRet_eq, ↓qRetN_eq, ↓qIfS_eq, ↓qNever_eq, ↓qSet_eq, ↓qOwn_eq, ↓qFreeze_eq, ↓qApp_eq, ↓qPar_eq, ↓qUnp_eq, ↓qUnpL_eq, ↓qFldS_eq, ↓qForL_eq, ↓qForT_eq, ↓qForR1_eq, ↓qForR2_eq, ↓qCall_eq, ↓qMake_eq, ↓qMeth_eq, ↓qProp_eq, ↓qCB_eq, ↓cAbs_eq, ↓cInt_eq, ↓cGcd_eq, ↓cLen_eq, ↓cLenS_eq, ↓qBits_eq, ↓qIsi_eq, ↓qBin_eq, ↓qUna_eq, ↓cAbsO_eq, ↓qEqO_eq, ↓qRaise_eq, ↓qTry_eq, ↓qXi_eq, ↓qLenO_eq, ↓qForR3_eq, ↓qIx_l, ↓qIx_t, ↓qFld_eq, ↓qXf_eq, ↓qSetIx_eq, ↓qIxO_eq, ↓qEqD_eq, ↓tryD_nx, ↓tryD_rt, ↓tryD_bk, ↓tryD_ct, ↓tryD_ex, ↓endsP_nx, ↓endsP_rt, ↓endsP_ex, ↓endsI_nx, ↓endsI_rt, ↓endsI_ex, ↓iAdd, ↓iSub, ↓iMul, ↓iDiv, ↓iMod, ↓iPow, ↓iLt, ↓iLe, ↓iGt, ↓iGe, atI_l0, atI_l1, atI_l2, atI_l3, atI_l4, atI_l5, atI_l6, atI_l7, atI_l8, atI_l9, atI_l10, atI_l11, atI_l12, lookup_hd, lookup_tl, putP_nil, putP_hd, putP_tl, List.lookup_nil, true_and, and_true, ↓reduceIte, if_true, if_false, exists_eq_left', exists_eq_left, Option.some.injEq, Sl.ins.injEq, Bool.false_xor, Bool.true_xor, beq_iff_eq, decide_eq_true_eq, Bool.not_true, Bool.not_false, Bool.false_eq_true, Nat.reduceLeDiff, Nat.reduceLT, Bool.not_eq_true', beq_eq_false_iff_ne, decide_eq_false_iff_not, reduceCtorEq, ne_eq, not_false_eq_true, not_true_eq_false, true_imp_iff, false_imp_iff, forall_const, beq_self_eq_true, Bool.and_self, isiInt, isiBool, isiStr, isiC, nfC, inL, startP, startI, setAll, List.map_cons, List.map_nil, List.length_cons, List.length_nil, List.cons_append, List.nil_append, List.append_nil, List.replicate, List.getElem?_cons_zero, List.getElem?_cons_succ, List.set_cons_zero, List.set_cons_succ, Nat.reduceSub, Nat.reduceAdd, List.getD_cons_zero, ↓i_truth, ↓i_is_zero, z1, z2, z3, z4, z5, np, nq, hp.2.1, hp.2.2]
      exact hR
    refine ⟨fun ρ => ∃ v, ρ = [some (.pv (rat a.C_Ratio p0 p1)), some (.pv (rat a.C_Ratio q0 q1)), some (.pv (.tup [.int p0, .int p1])), some (.pv (.tup [.int q0, .int q1])), v], ?_, ?_⟩
    · simp (disch := decide) only [↓qVar_eq, ↓qC_eq, ↓qOp_eq, ↓qI_eq, ↓qI0_eq, ↓qEq_eq, ↓qIsN_eq, ↓qUn_eq, ↓qNeg_eq, ↓qB_eq, ↓qNotT_eq, ↓qAndT_eq, ↓qOrT_eq, ↓qAndV_eq, ↓qOrV_eq, ↓qNotV_eq, ↓qIf_eq, ↓qNil_eq, ↓qCons_eq, ↓qTup_eq, ↓qLst_eq, ↓qPart_eq, ↓qNoPart_eq, ↓qSl_eq, ↓qNext_eq, ↓qSeq_eq, ↓qBreak_eq, ↓qCont_eq, ↓qDrop_eq, ↓qRet_eq, ↓qRetN_eq, ↓qIfS_eq, ↓qNever_eq, ↓qSet_eq, ↓qOwn_eq, ↓qFreeze_eq, ↓qApp_eq, ↓qPar_eq, ↓qUnp_eq, ↓qUnpL_eq, ↓qFldS_eq, ↓qForL_eq, ↓qForT_eq, ↓qForR1_eq, ↓qForR2_eq, ↓qCall_eq, ↓qMake_eq, ↓qMeth_eq, ↓qProp_eq, ↓qCB_eq, ↓cAbs_eq, ↓cInt_eq, ↓cGcd_eq, ↓cLen_eq, ↓cLenS_eq, ↓qBits_eq, ↓qIsi_eq, ↓qBin_eq, ↓qUna_eq, ↓cAbsO_eq, ↓qEqO_eq, ↓qRaise_eq, ↓qTry_eq, ↓qXi_eq, ↓qLenO_eq, ↓qForR3_eq, ↓qIx_l, ↓qIx_t, ↓qFld_eq, ↓qXf_eq, ↓qSetIx_eq, ↓qIxO_eq, ↓qEqD_eq, ↓tryD_nx, ↓tryD_rt, ↓tryD_bk, ↓tryD_ct, ↓tryD_ex, ↓endsP_nx, ↓endsP_rt, ↓endsP_ex, ↓endsI_nx, ↓endsI_rt, ↓endsI_ex, ↓iAdd, ↓iSub, ↓iMul, ↓iDiv, ↓iMod, ↓iPow, ↓iLt, ↓iLe, ↓iGt, ↓iGe, atI_l0, atI_l1, atI_l2, atI_l3, atI_l4, atI_l5, atI_l6, atI_l7, atI_l8, atI_l9, atI_l10, atI_l11, atI_l12, lookup_hd, lookup_tl, putP_nil, putP_hd, putP_tl, List.lookup_nil, true_and, and_true, ↓reduceIte, if_true, if_false, exists_eq_left', exists_eq_left, Option.some.injEq, Sl.ins.injEq, Bool.false_xor, Bool.true_xor, beq_iff_eq, decide_eq_true_eq, Bool.not_true, Bool.not_false, Bool.false_eq_true, Nat.reduceLeDiff, Nat.reduceLT, Bool.not_eq_true', beq_eq_false_iff_ne, decide_eq_false_iff_not, reduceCtorEq, ne_eq, not_false_eq_true, not_true_eq_false, true_imp_iff, false_imp_iff, forall_const, beq_self_eq_true, Bool.and_self, isiInt, isiBool, isiStr, isiC, nfC, inL, startP, startI, setAll, List.map_cons, List.map_nil, List.length_cons, List.length_nil, List.cons_append, List.nil_append, List.append_nil, List.replicate, List.getElem?_cons_zero, List.getElem?_cons_succ, List.set_cons_zero, List.set_cons_succ, Nat.reduceSub, Nat.reduceAdd, List.getD_cons_zero, ↓qLoop_cons, ↓qLoop_nil, ↓i_truth, ↓i_eq_int, ↓i_eq_str, ↓i_eq_tup, ↓i_eq_non]
      exact ⟨_, rfl⟩
    · rintro ρ' ⟨v, rfl⟩
      simp (disch := decide) only [↓qVar_eq, ↓qC_eq, ↓qOp_eq, ↓qI_eq, ↓qI0_eq, ↓qEq_eq, ↓qIsN_eq, ↓qUn_eq, ↓qNeg_eq, ↓qB_eq, ↓qNotT_eq, ↓qAndT_eq, ↓qOrT_eq, ↓qAndV_eq, ↓qOrV_eq, ↓qNotV_eq, ↓qIf_eq, ↓qNil_eq, ↓qCons_eq, ↓qTup_eq, ↓qLst_eq, ↓qPart_eq, ↓qNoPart_eq, ↓qSl_eq, ↓qNext_eq, ↓qSeq_eq, ↓qBreak_eq, ↓qCont_eq, ↓qDrop_eq, ↓qRet_eq, ↓qRetN_eq, ↓qIfS_eq, ↓qNever_eq, ↓qSet_eq, ↓qOwn_eq, ↓qFreeze_eq, ↓qApp_eq, ↓qPar_eq, ↓qUnp_eq, ↓qUnpL_eq, ↓qFldS_eq, ↓qForL_eq, ↓qForT_eq, ↓qForR1_eq, ↓qForR2_eq, ↓qCall_eq, ↓qMake_eq, ↓qMeth_eq, ↓qProp_eq, ↓qCB_eq, ↓cAbs_eq, ↓cInt_eq, ↓cGcd_eq, ↓cLen_eq, ↓cLenS_eq, ↓qBits_eq, ↓qIsi_eq, ↓qBin_eq, ↓qUna_eq, ↓cAbsO_eq, ↓qEqO_eq, ↓qRaise_eq, ↓qTry_eq, ↓qXi_eq, ↓qLenO_eq, ↓qForR3_eq, ↓qIx_l, ↓qIx_t, ↓qFld_eq, ↓qXf_eq, ↓qSetIx_eq, ↓qIxO_eq, ↓qEqD_eq, ↓tryD_nx, ↓tryD_rt, ↓tryD_bk, ↓tryD_ct, ↓tryD_ex, ↓endsP_nx, ↓endsP_rt, ↓endsP_ex, ↓endsI_nx, ↓endsI_rt, ↓endsI_ex, ↓iAdd, ↓iSub, ↓iMul, ↓iDiv, ↓iMod, ↓iPow, ↓iLt, ↓iLe, ↓iGt, ↓iGe, atI_l0, atI_l1, atI_l2, atI_l3, atI_l4, atI_l5, atI_l6, atI_l7, atI_l8, atI_l9, atI_l10, atI_l11, atI_l12, lookup_hd, lookup_tl, putP_nil, putP_hd, putP_tl, List.lookup_nil, true_and, and_true, ↓reduceIte, if_true, if_false, exists_eq_left', exists_eq_left, Option.some.injEq, Sl.ins.injEq, Bool.false_xor, Bool.true_xor, beq_iff_eq, decide_eq_true_eq, Bool.not_true, Bool.not_false, Bool.false_eq_true, Nat.reduceLeDiff, Nat.reduceLT, Bool.not_eq_true', beq_eq_false_iff_ne, decide_eq_false_iff_not, reduceCtorEq, ne_eq, not_false_eq_true, not_true_eq_false, true_imp_iff, false_imp_iff, forall_const, beq_self_eq_true, Bool.and_self, isiInt, isiBool, isiStr, isiC, nfC, inL, startP, startI, setAll, List.map_cons, List.map_nil, List.length_cons, List.length_nil, List.cons_append, List.nil_append, List.append_nil, List.replicate, List.getElem?_cons_zero, List.getElem?_cons_succ, List.set_cons_zero, List.set_cons_succ, Nat.reduceSub, Nat.reduceAdd, List.getD_cons_zero]
      exact h

theorem ok_law_zero_bottom (T : Txt K mg a) (S : Fs K a d) : FnOk P w K mg base (L2.CX P w) 5 a.f_law_zero_bottom d.d_law_zero_bottom ["top"] (spP K (P_law_zero_bottom a)) := by
  refine fa_q (k := 4) S.F_law_zero_bottom sc_law_zero_bottom (len_law_zero_bottom a) (fun cdv A outer s H E hr =>
    (jss_cons (js_set 1 sc_law_zero_bottom.nd (je_lst ja_nil))
      (jss_cut (js_try 2 (r := fun C => if C = a.C_ZeroBottom then some true else none) sc_law_zero_bottom.nd ⟨rfl, by decide, .inl T.mg_ZeroBottom⟩ (fun C b h => by obtain ⟨rfl, rfl⟩ := one_c h; exact T.xe_ZeroBottom) (takes_of rfl rfl rfl rfl) (fun W1 pn xe tk1 hp1 => (jss_one (js_expr (je_make T.mk_Ratio (ok_Ratio_init T S) (hr.mono (by decide)) T.mg_Ratio S.B_Ratio_init .nil (fun _ => .nil) (tkOf tk1) (ja_cons (je_var 0) (ja_cons je_int ja_nil))))))
        (fun xa oe cls xd pn hz hf => (jss_one (js_set 1 sc_law_zero_bottom.nd (je_lst (ja_cons (je_xf 2 (ok := fun C => decide (C = a.C_ZeroBottom)) (fun C h => by have h := of_decide_eq_true h; subst h; exact ⟨T.xf_ZeroBottom, T.na_ZeroBottom_word⟩) hz hf) (ja_cons (je_xiC 2 (r := fun C => if C = a.C_ZeroBottom then some true else none) (fun C b h => by obtain ⟨rfl, rfl⟩ := one_c h; exact ⟨T.xc_ZeroBottom, T.xk_ZeroBottom_LastrowsError⟩) T.b_isinstance hz hf T.mg_LastrowsError) (ja_cons (je_xiT 2 (r := fun C => if C = a.C_ZeroBottom then some true else none) (fun C b h => by obtain ⟨rfl, rfl⟩ := one_c h; exact ⟨T.xc_ZeroBottom, T.xk_ZeroBottom_ValueError⟩) T.b_isinstance hz hf T.b_ValueError) (ja_cons (je_xiC 2 (r := fun C => if C = a.C_ZeroBottom then some false else none) (fun C b h => by obtain ⟨rfl, rfl⟩ := one_c h; exact ⟨T.xc_ZeroBottom, T.xk_ZeroBottom_Empty⟩) T.b_isinstance hz hf T.mg_Empty) (ja_cons (je_xiC 2 (r := fun C => if C = a.C_ZeroBottom then some false else none) (fun C b h => by obtain ⟨rfl, rfl⟩ := one_c h; exact ⟨T.xc_ZeroBottom, T.xk_ZeroBottom_BadText⟩) T.b_isinstance hz hf T.mg_BadText) ja_nil))))))))))
      (jss_one (js_ret (je_eqD hr (je_var 1) (je_lst (ja_cons je_str (ja_cons je_bl (ja_cons je_bl (ja_cons je_bl (ja_cons je_bl ja_nil)))))))))))) ?pure
  case pure =>
    rintro xs y Q ⟨t, rfl, h⟩
    simp (disch := decide) only [↓qVar_eq, ↓qC_eq, ↓qOp_eq, ↓qI_eq, ↓qI0_eq, ↓qEq_eq, ↓qIsN_eq, ↓qUn_eq, ↓qNeg_eq, ↓qB_eq, ↓qNotT_eq, ↓qAndT_eq, ↓qOrT_eq, ↓qAndV_eq, ↓qOrV_eq, ↓qNotV_eq, ↓qIf_eq, ↓qNil_eq, ↓qCons_eq, ↓qTup_eq, ↓qLst_eq, ↓qPart_eq, ↓qNoPart_eq, ↓qSl_eq, ↓qNext_eq, ↓qSeq_eq, ↓qBreak_eq, ↓qCont_eq, ↓qDrop_eq, ↓qRet_eq, ↓qRetN_eq, ↓qIfS_eq, ↓qNever_eq, ↓qSet_eq, ↓qOwn_eq, ↓qFreeze_eq, ↓qApp_eq, ↓qPar_eq, ↓qUnp_eq, ↓qUnpL_eq, ↓qFldS_eq, ↓qForL_eq, ↓qForT_eq, ↓qForR1_eq, ↓qForR2_eq, ↓qCall_eq, ↓qMake_eq, ↓qMeth_eq, ↓qProp_eq, ↓qCB_eq, ↓cAbs_eq, ↓cInt_eq, ↓cGcd_eq, ↓cLen_eq, ↓cLenS_eq, ↓qBits_eq, ↓qIsi_eq, ↓qBin_eq, ↓qUna_eq, ↓cAbsO_eq, ↓qEqO_eq, ↓qRaise_eq, ↓qTry_eq, ↓qXi_eq, ↓qLenO_eq, ↓qForR3_eq, ↓qIx_l, ↓qIx_t, ↓qFld_eq, ↓qXf_eq, ↓qSetIx_eq, ↓qIxO_eq, ↓qEqD_eq, ↓tryD_nx, ↓tryD_rt, ↓tryD_bk, ↓tryD_ct, ↓tryD_ex, ↓endsP_nx, ↓endsP_rt, ↓endsP_ex, ↓endsI_nx, ↓endsI_rt, ↓endsI_ex, ↓iAdd, ↓iSub, ↓iMul, ↓iDiv, ↓iMod, ↓iPow, ↓iLt, ↓iLe, ↓iGt, ↓iGe, atI_l0, atI_l1, atI_l2, atI_l3, atI_l4, atI_l5, atI_l6, atI_l7, atI_l8, atI_l9, atI_l10, atI_l11, atI_l12, lookup_hd, lookup_tl, putP_nil, putP_hd, putP_tl, List.lookup_nil, true_and, and_true, ↓reduceIte, if_true, if_false, exists_eq_left', exists_eq_left, Option.some.injEq, Sl.ins.injEq, Bool.false_xor, Bool.true_xor, beq_iff_eq, decide_eq_true_eq, Bool.not_true, Bool.not_false, Bool.false_eq_true, Nat.reduceLeDiff, Nat.reduceLT, Bool.not_eq_true', beq_eq_false_iff_ne, decide_eq_false_iff_not, reduceCtorEq, ne_eq, not_false_eq_true, not_true_eq_false, true_imp_iff, false_imp_iff, forall_const, beq_self_eq_true, Bool.and_self, isiInt, isiBool, isiStr, isiC, nfC, inL, startP, startI, setAll, List.map_cons, List.map_nil, List.length_cons, List.length_nil, List.cons_append, List.nil_append, List.append_nil, List.replicate, List.getElem?_cons_zero, List.getElem?_cons_succ, List.set_cons_zero, List.set_cons_succ, Nat.reduceSub, Nat.reduceAdd, List.getD_cons_zero]
    refine ⟨fun ρ => ρ = [some (.pv (.int t)), some (.pv (.lst [.str "bottom", .bl true, .bl true, .bl false, .bl false])), none], ?_, ?_⟩
    · simp (disch := decide) only [↓qVar_eq, ↓qC_eq, ↓qOp_eq, ↓qI_eq, ↓qI0_eq, ↓qEq_eq, ↓qIsN_eq, ↓qUn_eq, ↓qNeg_eq, ↓qB_eq, ↓qNotT_eq, ↓qAndT_eq, ↓qOrT_eq, ↓qAndV_eq, ↓qOrV_eq, ↓qNotV_eq, ↓qIf_eq, ↓qNil_eq, ↓qCons_eq, ↓qTup_eq, ↓qLst_eq, ↓qPart_eq, ↓qNoPart_eq, ↓qSl_eq, ↓qNext_eq, ↓qSeq_eq, ↓qBreak_eq, ↓qCont_eq, ↓qDrop_eq, ↓qRet_eq, ↓qRetN_eq, ↓qIfS_eq, ↓qNever_eq, ↓qSet_eq, ↓qOwn_eq, ↓qFreeze_eq, ↓qApp_eq, ↓qPar_eq, ↓qUnp_eq, ↓qUnpL_eq, ↓qFldS_eq, ↓qForL_eq, ↓qForT_eq, ↓qForR1_eq, ↓qForR2_eq, ↓qCall_eq, ↓qMake_eq, ↓qMeth_eq, ↓qProp_eq, ↓qCB_eq, ↓cAbs_eq, ↓cInt_eq, ↓cGcd_eq, ↓cLen_eq, ↓cLenS_eq, ↓qBits_eq, ↓qIsi_eq, ↓qBin_eq, ↓qUna_eq, ↓cAbsO_eq, ↓qEqO_eq, ↓qRaise_eq, ↓qTry_eq, ↓qXi_eq, ↓qLenO_eq, ↓qForR3_eq, ↓qIx_l, ↓qIx_t, ↓qFld_eq, ↓qXf_eq, ↓qSetIx_eq, ↓qIxO_eq, ↓qEqD_eq, ↓tryD_nx, ↓tryD_rt, ↓tryD_bk, ↓tryD_ct, ↓tryD_ex, ↓endsP_nx, ↓endsP_rt, ↓endsP_ex, ↓endsI_nx, ↓endsI_rt, ↓endsI_ex, ↓iAdd, ↓iSub, ↓iMul, ↓iDiv, ↓iMod, ↓iPow, ↓iLt, ↓iLe, ↓iGt, ↓iGe, atI_l0, atI_l1, atI_l2, atI_l3, atI_l4, atI_l5, atI_l6, atI_l7, atI_l8, atI_l9, atI_l10, atI_l11, atI_l12, lookup_hd, lookup_tl, putP_nil, putP_hd, putP_tl, List.lookup_nil, true_and, and_true, ↓reduceIte, if_true, if_false, exists_eq_left', exists_eq_left, Option.some.injEq, Sl.ins.injEq, Bool.false_xor, Bool.true_xor, beq_iff_eq, decide_eq_true_eq, Bool.not_true, Bool.not_false, Bool.false_eq_true, Nat.reduceLeDiff, Nat.reduceLT, Bool.not_eq_true', beq_eq_false_iff_ne, decide_eq_false_iff_not, reduceCtorEq, ne_eq, not_false_eq_true, not_true_eq_false, true_imp_iff, false_imp_iff, forall_const, beq_self_eq_true, Bool.and_self, isiInt, isiBool, isiStr, isiC, nfC, inL, startP, startI, setAll, List.map_cons, List.map_nil, List.length_cons, List.length_nil, List.cons_append, List.nil_append, List.append_nil, List.replicate, List.getElem?_cons_zero, List.getElem?_cons_succ, List.set_cons_zero, List.set_cons_succ, Nat.reduceSub, Nat.reduceAdd, List.getD_cons_zero, ↓i_init, zb]
    · rintro ρ' rfl
      simp (disch := decide) only [↓qVar_eq, ↓qC_eq, ↓qOp_eq, ↓qI_eq, ↓qI0_eq, ↓qEq_eq, ↓qIsN_eq, ↓qUn_eq, ↓qNeg_eq, ↓qB_eq, ↓qNotT_eq, ↓qAndT_eq, ↓qOrT_eq, ↓qAndV_eq, ↓qOrV_eq, ↓qNotV_eq, ↓qIf_eq, ↓qNil_eq, ↓qCons_eq, ↓qTup_eq, ↓qLst_eq, ↓qPart_eq, ↓qNoPart_eq, ↓qSl_eq, ↓qNext_eq, ↓qSeq_eq, ↓qBreak_eq, ↓qCont_eq, ↓qDrop_eq, ↓qRet_eq, ↓qRetN_eq, ↓qIfS_eq, ↓qNever_eq, ↓qSet_eq, ↓qOwn_eq, ↓qFreeze_eq, ↓qApp_eq, ↓qPar_eq, ↓qUnp_eq, ↓qUnpL_eq, ↓qFldS_eq, ↓qForL_eq, ↓qForT_eq, ↓qForR1_eq, ↓qForR2_eq, ↓qCall_eq, ↓qMake_eq, ↓qMeth_eq, ↓qProp_eq, ↓qCB_eq, ↓cAbs_eq, ↓cInt_eq, ↓cGcd_eq, ↓cLen_eq, ↓cLenS_eq, ↓qBits_eq, ↓qIsi_eq, ↓qBin_eq, ↓qUna_eq, ↓cAbsO_eq, ↓qEqO_eq, ↓qRaise_eq, ↓qTry_eq, ↓qXi_eq, ↓qLenO_eq, ↓qForR3_eq, ↓qIx_l, ↓qIx_t, ↓qFld_eq, ↓qXf_eq, ↓qSetIx_eq, ↓qIxO_eq, ↓qEqD_eq, ↓tryD_nx, ↓tryD_rt, ↓tryD_bk, ↓tryD_ct, ↓tryD_ex, ↓endsP_nx, ↓endsP_rt, ↓endsP_ex, ↓endsI_nx, ↓endsI_rt, ↓endsI_ex, ↓iAdd, ↓iSub, ↓iMul, ↓iDiv, ↓iMod, ↓iPow, ↓iLt, ↓iLe, ↓iGt, ↓iGe, atI_l0, atI_l1, atI_l2, atI_l3, atI_l4, atI_l5, atI_l6, atI_l7, atI_l8, atI_l9, atI_l10, atI_l11, atI_l12, lookup_hd, lookup_tl, putP_nil, putP_hd, putP_tl, List.lookup_nil, true_and, and_true, ↓reduceIte, if_true, if_false, exists_eq_left', exists_eq_left, Option.some.injEq, Sl.ins.injEq, Bool.false_xor, Bool.true_xor, beq_iff_eq, decide_eq_true_eq, Bool.not_true, Bool.not_false, Bool.false_eq_true, Nat.reduceLeDiff, Nat.reduceLT, Bool.not_eq_true', beq_eq_false_iff_ne, decide_eq_false_iff_not, reduceCtorEq, ne_eq, not_false_eq_true, not_true_eq_false, true_imp_iff, false_imp_iff, forall_const, beq_self_eq_true, Bool.and_self, isiInt, isiBool, isiStr, isiC, nfC, inL, startP, startI, setAll, List.map_cons, List.map_nil, List.length_cons, List.length_nil, List.cons_append, List.nil_append, List.append_nil, List.replicate, List.getElem?_cons_zero, List.getElem?_cons_succ, List.set_cons_zero, List.set_cons_succ, Nat.reduceSub, Nat.reduceAdd, List.getD_cons_zero, toD, toDs]
      exact ⟨by decide +kernel, by decide +kernel, h⟩

theorem ok_law (T : Txt K mg a) (S : Fs K a d) : FnOk P w K mg base (L2.CX P w) 8 a.f_law d.d_law ["script"] (spP K (P_law a)) := by
  obtain ⟨ds_Ratio_init_1, hd_Ratio_init_1, hb_Ratio_init_1⟩ := S.B_Ratio_init_1
  refine fa_q (k := 7) S.F_law sc_law (len_law a) (fun cdv A outer s H E hr =>
    (jss_cons (js_set 1 sc_law.nd (je_call (ok_law_numbers T S) (hr.mono (by decide)) T.mg_law_numbers S.F_law_numbers.kp S.B_law_numbers .nil (fun _ => .nil) (tkOf (takes_of rfl rfl rfl rfl)) (ja_cons (je_var 0) ja_nil)))
      (jss_cons (js_set 2 sc_law.nd (je_call (ok_law_ratio T S) (hr.mono (by decide)) T.mg_law_ratio S.F_law_ratio.kp S.B_law_ratio .nil (fun _ => .nil) (tkOf (takes_of rfl rfl rfl rfl)) (ja_cons (je_ix (je_var 1) je_int) (ja_cons (je_ix (je_var 1) je_int) ja_nil))))
      (jss_cons (js_set 3 sc_law.nd (je_call (ok_law_ratio T S) (hr.mono (by decide)) T.mg_law_ratio S.F_law_ratio.kp S.B_law_ratio .nil (fun _ => .nil) (tkOf (takes_of rfl rfl rfl rfl)) (ja_cons (je_ix (je_var 1) je_int) (ja_cons (je_ix (je_var 1) je_int) ja_nil))))
      (jss_cons (js_set 4 sc_law.nd (je_make T.mk_Ratio (ok_Ratio_init T S) (hr.mono (by decide)) T.mg_Ratio S.B_Ratio_init .nil (fun _ => .nil) (tkOf (takes_of rfl rfl rfl rfl)) (ja_cons (je_ix (je_var 1) je_int) (ja_cons (je_ix (je_var 1) je_int) ja_nil))))
      (jss_cons (js_set 5 sc_law.nd (je_make T.mk_Ratio (ok_Ratio_init T S) (hr.mono (by decide)) T.mg_Ratio S.B_Ratio_init .nil (fun _ => .nil) (tkOf (takes_of rfl rfl rfl rfl)) (ja_cons (je_ix (je_var 1) je_int) (ja_cons (je_ix (je_var 1) je_int) ja_nil))))
      (jss_cons (js_if (jt_w (jw_or (jt_not (jt_val (je_call (ok_law_is T S) (hr.mono (by decide)) T.mg_law_is S.F_law_is.kp S.B_law_is .nil (fun _ => .nil) (tkOf (takes_of rfl rfl rfl rfl)) (ja_cons (je_var 4) (ja_cons (je_var 2) ja_nil))))) (jw_or1 (jt_not (jt_val (je_call (ok_law_is T S) (hr.mono (by decide)) T.mg_law_is S.F_law_is.kp S.B_law_is .nil (fun _ => .nil) (tkOf (takes_of rfl rfl rfl rfl)) (ja_cons (je_var 5) (ja_cons (je_var 3) ja_nil)))))))) (jss_one (js_ret je_bl)) jss_nil)
      (jss_cut (js_forL 6 (passes_of rfl) rfl sc_law.nd (je_lst (ja_cons (je_ix (je_var 1) je_int) (ja_cons (je_ix (je_var 1) je_int) (ja_cons je_int ja_nil))))
        (jss_one (js_if (jt_w (jw_or (jt_not (jt_val (je_call (ok_law_zero_bottom T S) (hr.mono (by decide)) T.mg_law_zero_bottom S.F_law_zero_bottom.kp S.B_law_zero_bottom .nil (fun _ => .nil) (tkOf (takes_of rfl rfl rfl rfl)) (ja_cons (je_var 6) ja_nil)))) (jw_or (jt_not (jt_val (je_call (ok_law_is T S) (hr.mono (by decide)) T.mg_law_is S.F_law_is.kp S.B_law_is .nil (fun _ => .nil) (tkOf (takes_of rfl rfl rfl rfl)) (ja_cons (je_make T.mk_Ratio (ok_Ratio_init T S) (hr.mono (by decide)) T.mg_Ratio S.B_Ratio_init .nil (fun _ => .nil) (tkOf (takes_of rfl rfl rfl rfl)) (ja_cons (je_var 6) (ja_cons je_int ja_nil))) (ja_cons (je_tup (ja_cons (je_var 6) (ja_cons je_int ja_nil))) ja_nil))))) (jw_or1 (jt_not (jt_val (je_call (ok_law_is T S) (hr.mono (by decide)) T.mg_law_is S.F_law_is.kp S.B_law_is .nil (fun _ => .nil) (tkOf (takes_of rfl rfl rfl rfl)) (ja_cons (je_make (dps := [.int 1]) T.mk_Ratio (ok_Ratio_init T S) (hr.mono (by decide)) T.mg_Ratio hb_Ratio_init_1 hd_Ratio_init_1 (fun _ => (.cons (.int 1) .nil)) (tkOf (takes_of rfl rfl rfl rfl)) (ja_cons (je_var 6) ja_nil)) (ja_cons (je_tup (ja_cons (je_var 6) (ja_cons je_int ja_nil))) ja_nil))))))))) (jss_one (js_ret je_bl)) jss_nil)))
      (jss_cons (js_if (jt_not (jt_val (je_call (ok_law_is T S) (hr.mono (by decide)) T.mg_law_is S.F_law_is.kp S.B_law_is .nil (fun _ => .nil) (tkOf (takes_of rfl rfl rfl rfl)) (ja_cons (je_make T.mk_Ratio (ok_Ratio_init T S) (hr.mono (by decide)) T.mg_Ratio S.B_Ratio_init .nil (fun _ => .nil) (tkOf (takes_of rfl rfl rfl rfl)) (ja_cons je_int (ja_cons (je_ix (je_var 1) je_int) ja_nil))) (ja_cons (je_tup (ja_cons je_int (ja_cons je_int ja_nil))) ja_nil))))) (jss_one (js_ret je_bl)) jss_nil)
      (jss_cons (js_set 7 sc_law.nd (je_call (ok_law_dues T S) (hr.mono (by decide)) T.mg_law_dues S.F_law_dues.kp S.B_law_dues .nil (fun _ => .nil) (tkOf (takes_of rfl rfl rfl rfl)) (ja_cons (je_var 2) (ja_cons (je_var 3) ja_nil))))
      (jss_cut (js_forR1 8 (passes_of rfl) rfl sc_law.nd T.b_range (ja_cons je_int ja_nil)
        (jss_cons (js_if (jt_not (jt_val (je_call (ok_law_results T S) (hr.mono (by decide)) T.mg_law_results S.F_law_results.kp S.B_law_results .nil (fun _ => .nil) (tkOf (takes_of rfl rfl rfl rfl)) (ja_cons (je_var 4) (ja_cons (je_var 5) (ja_cons (je_var 2) (ja_cons (je_var 7) ja_nil))))))) (jss_one (js_ret je_bl)) jss_nil)
      (jss_cons (js_if (jt_w (jw_or (jt_not (jt_val (je_call (ok_law_quotient T S) (hr.mono (by decide)) T.mg_law_quotient S.F_law_quotient.kp S.B_law_quotient .nil (fun _ => .nil) (tkOf (takes_of rfl rfl rfl rfl)) (ja_cons (je_var 4) (ja_cons (je_var 5) (ja_cons (je_var 2) (ja_cons (je_var 3) ja_nil))))))) (jw_or1 (jt_not (jt_val (je_call (ok_law_quotient T S) (hr.mono (by decide)) T.mg_law_quotient S.F_law_quotient.kp S.B_law_quotient .nil (fun _ => .nil) (tkOf (takes_of rfl rfl rfl rfl)) (ja_cons (je_var 5) (ja_cons (je_var 4) (ja_cons (je_var 3) (ja_cons (je_var 2) ja_nil)))))))))) (jss_one (js_ret je_bl)) jss_nil)
      (jss_one (js_if (jt_w (jw_or (jt_not (jt_val (je_call (ok_law_order T S) (hr.mono (by decide)) T.mg_law_order S.F_law_order.kp S.B_law_order .nil (fun _ => .nil) (tkOf (takes_of rfl rfl rfl rfl)) (ja_cons (je_var 4) (ja_cons (je_var 5) (ja_cons (je_var 2) (ja_cons (je_var 3) ja_nil))))))) (jw_or1 (jt_not (jt_val (je_call (ok_law_order T S) (hr.mono (by decide)) T.mg_law_order S.F_law_order.kp S.B_law_order .nil (fun _ => .nil) (tkOf (takes_of rfl rfl rfl rfl)) (ja_cons (je_var 5) (ja_cons (je_var 4) (ja_cons (je_var 3) (ja_cons (je_var 2) ja_nil)))))))))) (jss_one (js_ret je_bl)) jss_nil)))))
      (jss_one (js_ret (je_and (je_call (ok_law_is T S) (hr.mono (by decide)) T.mg_law_is S.F_law_is.kp S.B_law_is .nil (fun _ => .nil) (tkOf (takes_of rfl rfl rfl rfl)) (ja_cons (je_var 4) (ja_cons (je_var 2) ja_nil))) (je_one (je_call (ok_law_is T S) (hr.mono (by decide)) T.mg_law_is S.F_law_is.kp S.B_law_is .nil (fun _ => .nil) (tkOf (takes_of rfl rfl rfl rfl)) (ja_cons (je_var 5) (ja_cons (je_var 3) ja_nil)))))))))))))))))) ?pure
  case pure =>
    rintro xs y Q ⟨ns, rfl, hn, h⟩
    refine ⟨ns, rfl, hn, fun n0 n1 n2 n3 e1 e3 s0 s1 s2 s3 => ?_⟩
    have z1 := s1.mono (show 3400 ≤ 8000 by decide)
    have z3 := s3.mono (show 3400 ≤ 8000 by decide)
    simp (disch := decide) only [↓qVar_eq, ↓qC_eq, ↓qOp_eq, ↓qI_eq, ↓qI0_eq, ↓qEq_eq, ↓qIsN_eq, ↓qUn_eq, ↓qNeg_eq, ↓qB_eq, ↓qNotT_eq, ↓qAndT_eq, ↓qOrT_eq, ↓qAndV_eq, ↓qOrV_eq, ↓qNotV_eq, ↓qIf_eq, ↓qNil_eq, ↓qCons_eq, ↓qTup_eq, ↓qLst_eq, ↓qPart_eq, ↓qNoPart_eq, ↓qSl_eq, ↓qNext_eq, ↓qSeq_eq, ↓qBreak_eq, ↓qCont_eq, ↓qDrop_eq, ↓qRet_eq, ↓qRetN_eq, ↓qIfS_eq, ↓qNever_eq, ↓qSet_eq, ↓qOwn_eq, ↓qFreeze_eq, ↓qApp_eq, ↓qPar_eq, ↓qUnp_eq, ↓qUnpL_eq, ↓qFldS_eq, ↓qForL_eq, ↓qForT_eq, ↓qForR1_eq, ↓qForR2_eq, ↓qCall_eq, ↓qMake_eq, ↓qMeth_eq, ↓qProp_eq, ↓qCB_eq, ↓cAbs_eq, ↓cInt_eq, ↓cGcd_eq, ↓cLen_eq, ↓cLenS_eq, ↓qBits_eq, ↓qIsi_eq, ↓qBin_eq, ↓qUna_eq, ↓cAbsO_eq, ↓qEqO_eq, ↓qRaise_eq, ↓qTry_eq, ↓qXi_eq, ↓qLenO_eq, ↓qForR3_eq, ↓qIx_l, ↓qIx_t, ↓qFld_eq, ↓qXf_eq, ↓qSetIx_eq, ↓qIxO_eq, ↓qEqD_eq, ↓tryD_nx, ↓tryD_rt, ↓tryD_bk, ↓tryD_ct, ↓tryD_ex, ↓endsP_nx, ↓endsP_rt, ↓endsP_ex, ↓endsI_nx, ↓endsI_rt, ↓endsI_ex, ↓iAdd, ↓iSub, ↓iMul, ↓iDiv, ↓iMod, ↓iPow, ↓iLt, ↓iLe, ↓iGt, ↓iGe, atI_l0, atI_l1, atI_l2, atI_l3, atI_l4, atI_l5, atI_l6, atI_l7, atI_l8, atI_l9, atI_l10, atI_l11, atI_l12, lookup_hd, lookup_tl, putP_nil, putP_hd, putP_tl, List.lookup_nil, true_and, and_true, ↓reduceIte, if_true, if_false, exists_eq_left', exists_eq_left, Option.some.injEq, Sl.ins.injEq, Bool.false_xor, Bool.true_xor, beq_iff_eq, decide_eq_true_eq, Bool.not_true, Bool.not_false, Bool.false_eq_true, Nat.reduceLeDiff, Nat.reduceLT, Bool.not_eq_true', beq_eq_false_iff_ne, decide_eq_false_iff_not, reduceCtorEq, ne_eq, not_false_eq_true, not_true_eq_false, true_imp_iff, false_imp_iff, forall_const, beq_self_eq_true, Bool.and_self, isiInt, isiBool, isiStr, isiC, nfC, inL, startP, startI, setAll, List.map_cons, List.map_nil, List.length_cons, List.length_nil, List.cons_append, List.nil_append, List.append_nil, List.replicate, List.getElem?_cons_zero, List.getElem?_cons_succ, List.set_cons_zero, List.set_cons_succ, Nat.reduceSub, Nat.reduceAdd, List.getD_cons_zero, lstI, ↓i_ratio, ↓i_init, ↓i_is, e1, e3, z1, z3]
    have s1' : Sz 8000 1 := by unfold Sz; exact Nat.one_lt_two_pow (by decide)
    have one : (1 : Int) ≠ 0 := by decide
    refine ⟨fun ρ => ∃ v, ρ = [some (.pv (lstI ns)), some (.pv (lstI [n0, n1, n2, n3])), some (.pv (.tup [.int (nT n0 n1), .int (nB n0 n1)])), some (.pv (.tup [.int (nT n2 n3), .int (nB n2 n3)])), some (.pv (rat a.C_Ratio (nT n0 n1) (nB n0 n1))), some (.pv (rat a.C_Ratio (nT n2 n3) (nB n2 n3))), v, none, none], ?_, ?_⟩
    · simp (disch := decide) only [↓qVar_eq, ↓qC_eq, ↓qOp_eq, ↓qI_eq, ↓qI0_eq, ↓qEq_eq, ↓qIsN_eq, ↓qUn_eq, ↓qNeg_eq, ↓qB_eq, ↓qNotT_eq, ↓qAndT_eq, ↓qOrT_eq, ↓qAndV_eq, ↓qOrV_eq, ↓qNotV_eq, ↓qIf_eq, ↓qNil_eq, ↓qCons_eq, ↓qTup_eq, ↓qLst_eq, ↓qPart_eq, ↓qNoPart_eq, ↓qSl_eq, ↓qNext_eq, ↓qSeq_eq, ↓qBreak_eq, ↓qCont_eq, ↓qDrop_eq, ↓qRet_eq, ↓qRetN_eq, ↓qIfS_eq, ↓qNever_eq, ↓qSet_eq, ↓qOwn_eq, ↓qFreeze_eq, ↓qApp_eq, ↓qPar_eq, ↓qUnp_eq, ↓qUnpL_eq, ↓qFldS_eq, ↓qForL_eq, ↓qForT_eq, ↓qForR1_eq, ↓qForR2_eq, ↓qCall_eq, ↓qMake_eq, ↓qMeth_eq, ↓qProp_eq, ↓qCB_eq, ↓cAbs_eq, ↓cInt_eq, ↓cGcd_eq, ↓cLen_eq, ↓cLenS_eq, ↓qBits_eq, ↓qIsi_eq, ↓qBin_eq, ↓qUna_eq, ↓cAbsO_eq, ↓qEqO_eq, ↓qRaise_eq, ↓qTry_eq, ↓qXi_eq, ↓qLenO_eq, ↓qForR3_eq, ↓qIx_l, ↓qIx_t, ↓qFld_eq, ↓qXf_eq, ↓qSetIx_eq, ↓qIxO_eq, ↓qEqD_eq, ↓tryD_nx, ↓tryD_rt, ↓tryD_bk, ↓tryD_ct, ↓tryD_ex, ↓endsP_nx, ↓endsP_rt, ↓endsP_ex, ↓endsI_nx, ↓endsI_rt, ↓endsI_ex, ↓iAdd, ↓iSub, ↓iMul, ↓iDiv, ↓iMod, ↓iPow, ↓iLt, ↓iLe, ↓iGt, ↓iGe, atI_l0, atI_l1, atI_l2, atI_l3, atI_l4, atI_l5, atI_l6, atI_l7, atI_l8, atI_l9, atI_l10, atI_l11, atI_l12, lookup_hd, lookup_tl, putP_nil, putP_hd, putP_tl, List.lookup_nil, true_and, and_true, ↓reduceIte, if_true, if_false, exists_eq_left', exists_eq_left, Option.some.injEq, Sl.ins.injEq, Bool.false_xor, Bool.true_xor, beq_iff_eq, decide_eq_true_eq, Bool.not_true, Bool.not_false, Bool.false_eq_true, Nat.reduceLeDiff, Nat.reduceLT, Bool.not_eq_true', beq_eq_false_iff_ne, decide_eq_false_iff_not, reduceCtorEq, ne_eq, not_false_eq_true, not_true_eq_false, true_imp_iff, false_imp_iff, forall_const, beq_self_eq_true, Bool.and_self, isiInt, isiBool, isiStr, isiC, nfC, inL, startP, startI, setAll, List.map_cons, List.map_nil, List.length_cons, List.length_nil, List.cons_append, List.nil_append, List.append_nil, List.replicate, List.getElem?_cons_zero, List.getElem?_cons_succ, List.set_cons_zero, List.set_cons_succ, Nat.reduceSub, Nat.reduceAdd, List.getD_cons_zero, ↓qLoop_cons, ↓qLoop_nil, ↓i_zb, ↓i_is, ↓i_init, (low_1 _).2.1, (low_1 _).2.2, s1', one]
      exact ⟨_, rfl⟩
    rintro ρ' ⟨v, rfl⟩
    have t1 : Two (nT n0 n1) (nB n0 n1) (nT n2 n3) (nB n2 n3) := ⟨⟨(nT_sz s0 e1).mono (by decide), (nB_sz s1 e1).mono (by decide), (nT_sz s2 e3).mono (by decide), (nB_sz s3 e3).mono (by decide)⟩, low_n e1, low_n e3⟩
    have t2 : Two (nT n2 n3) (nB n2 n3) (nT n0 n1) (nB n0 n1) := ⟨⟨t1.1.2.2.1, t1.1.2.2.2, t1.1.1, t1.1.2.1⟩, t1.2.2, t1.2.1⟩
    refine guard (fun R hR => ?_) ?_
    · simp (disch := decide) only [↓qVar_eq, ↓qC_eq, ↓qOp_eq, ↓qI_eq, ↓qI0_eq, ↓qEq_eq, ↓qIsN_eq, ↓qUn_eq, ↓qNeg_eq, ↓qB_eq, ↓qNotT_eq, ↓qAndT_eq, ↓qOrT_eq, ↓qAndV_eq, ↓qOrV_eq, ↓qNotV_eq, ↓qIf_eq, ↓qNil_eq, ↓qCons_eq, ↓qTup_eq, ↓qLst_eq, ↓qPart_eq, ↓qNoPart_eq, ↓qSl_eq, ↓qNext_eq, ↓qSeq_eq, ↓qBreak_eq, ↓qCont_eq, ↓qDrop_eq, ↓qRet_eq, ↓qRetN_eq, ↓qIfS_eq, ↓qNever_eq, ↓qSet_eq, ↓qOwn_eq, ↓qFreeze_eq, ↓qApp_eq, ↓qPar_eq, ↓qUnp_eq, ↓qUnpL_eq, ↓qFldS_eq, ↓qForL_eq, ↓qForT_eq, ↓qForR1_eq, ↓qForR2_eq, ↓qCall_eq, ↓qMake_eq, ↓qMeth_eq, ↓qProp_eq, ↓qCB_eq, ↓cAbs_eq, ↓cInt_eq, ↓cGcd_eq, ↓cLen_eq, ↓cLenS_eq, ↓qBits_eq, ↓qIsi_eq, ↓qBin_eq, ↓qUna_eq, ↓cAbsO_eq, ↓qEqO_eq, ↓qRaise_eq, ↓qTry_eq, ↓qXi_eq, ↓qLenO_eq, ↓qForR3_eq, ↓qIx_l, ↓qIx_t, ↓qFld_eq, ↓qXf_eq, ↓qSetIx_eq, ↓qIxO_eq, ↓qEqD_eq, ↓tryD_nx, ↓tryD_rt, ↓tryD_bk, ↓tryD_ct, ↓tryD_ex, ↓endsP_nx, ↓endsP_rt, ↓endsP_ex, ↓endsI_nx, ↓endsI_rt, ↓endsI_ex, ↓iAdd, ↓iSub, ↓iMul, ↓iDiv, ↓iMod, ↓iPow, ↓iLt, ↓iLe, ↓iGt, ↓iGe, atI_l0, atI_l1, atI_l2, atI_l3, atI_l4, atI_l5, atI_l6, atI_l7, atI_l8, atI_l9, atI_l10, atI_l11, atI_l12, lookup_hd, lookup_tl, putP_nil, putP_hd, putP_tl, List.lookup_nil, true_and, and_true, ↓reduceIte, if_true, if_false, exists_eq_left', exists_eq_left, Option.some.injEq, Sl.ins.injEq, Bool.false_xor, Bool.true_xor, beq_iff_eq, decide_eq_true_eq, Bool.not_true, Bool.not_false, Bool.false_eq_true, Nat.reduceLeDiff, Nat.reduceLT, Bool.not_eq_true', beq_eq_false_iff_ne, decide_eq_false_iff_not, reduceCtorEq, ne_eq, not_false_eq_true, not_true_eq_false, true_imp_iff, false_imp_iff, forall_const, beq_self_eq_true, Bool.and_self, isiInt, isiBool, isiStr, isiC, nfC, inL, startP, startI, setAll, List.map_cons, List.map_nil, List.length_cons, List.length_nil, List.cons_append, List.nil_append, List.append_nil, List.replicate, List.getElem?_cons_zero, List.getElem?_cons_succ, List.set_cons_zero, List.set_cons_succ, Nat.reduceSub, Nat.reduceAdd, List.getD_cons_zero, lstI, ↓i_init, ↓i_is, e1, z1, (n_0 e1).1, (n_0 e1).2]
      exact hR
    simp (disch := decide) only [↓qVar_eq, ↓qC_eq, ↓qOp_eq, ↓qI_eq, ↓qI0_eq, ↓qEq_eq, ↓qIsN_eq, ↓qUn_eq, ↓qNeg_eq, ↓qB_eq, ↓qNotT_eq, ↓qAndT_eq, ↓qOrT_eq, ↓qAndV_eq, ↓qOrV_eq, ↓qNotV_eq, ↓qIf_eq, ↓qNil_eq, ↓qCons_eq, ↓qTup_eq, ↓qLst_eq, ↓qPart_eq, ↓qNoPart_eq, ↓qSl_eq, ↓qNext_eq, ↓qSeq_eq, ↓qBreak_eq, ↓qCont_eq, ↓qDrop_eq, ↓qRet_eq, ↓qRetN_eq, ↓qIfS_eq, ↓qNever_eq, ↓qSet_eq, ↓qOwn_eq, ↓qFreeze_eq, ↓qApp_eq, ↓qPar_eq, ↓qUnp_eq, ↓qUnpL_eq, ↓qFldS_eq, ↓qForL_eq, ↓qForT_eq, ↓qForR1_eq, ↓qForR2_eq, ↓qCall_eq, ↓qMake_eq, ↓qMeth_eq, ↓qProp_eq, ↓qCB_eq, ↓cAbs_eq, ↓cInt_eq, ↓cGcd_eq, ↓cLen_eq, ↓cLenS_eq, ↓qBits_eq, ↓qIsi_eq, ↓qBin_eq, ↓qUna_eq, ↓cAbsO_eq, ↓qEqO_eq, ↓qRaise_eq, ↓qTry_eq, ↓qXi_eq, ↓qLenO_eq, ↓qForR3_eq, ↓qIx_l, ↓qIx_t, ↓qFld_eq, ↓qXf_eq, ↓qSetIx_eq, ↓qIxO_eq, ↓qEqD_eq, ↓tryD_nx, ↓tryD_rt, ↓tryD_bk, ↓tryD_ct, ↓tryD_ex, ↓endsP_nx, ↓endsP_rt, ↓endsP_ex, ↓endsI_nx, ↓endsI_rt, ↓endsI_ex, ↓iAdd, ↓iSub, ↓iMul, ↓iDiv, ↓iMod, ↓iPow, ↓iLt, ↓iLe, ↓iGt, ↓iGe, atI_l0, atI_l1, atI_l2, atI_l3, atI_l4, atI_l5, atI_l6, atI_l7, atI_l8, atI_l9, atI_l10, atI_l11, atI_l12, lookup_hd, lookup_tl, putP_nil, putP_hd, putP_tl, List.lookup_nil, true_and, and_true, ↓reduceIte, if_true, if_false, exists_eq_left', exists_eq_left, Option.some.injEq, Sl.ins.injEq, Bool.false_xor, Bool.true_xor, beq_iff_eq, decide_eq_true_eq, Bool.not_true, Bool.not_false, Bool.false_eq_true, Nat.reduceLeDiff, Nat.reduceLT, Bool.not_eq_true', beq_eq_false_iff_ne, decide_eq_false_iff_not, reduceCtorEq, ne_eq, not_false_eq_true, not_true_eq_false, true_imp_iff, false_imp_iff, forall_const, beq_self_eq_true, Bool.and_self, isiInt, isiBool, isiStr, isiC, nfC, inL, startP, startI, setAll, List.map_cons, List.map_nil, List.length_cons, List.length_nil, List.cons_append, List.nil_append, List.append_nil, List.replicate, List.getElem?_cons_zero, List.getElem?_cons_succ, List.set_cons_zero, List.set_cons_succ, Nat.reduceSub, Nat.reduceAdd, List.getD_cons_zero, ↓i_dues, t1.1.1, t1.1.2.1, t1.1.2.2.1, t1.1.2.2.2, Int.ne_of_gt t1.2.1.1, Int.ne_of_gt t1.2.2.1]
    refine ⟨fun ρ => ∃ v w, ρ = [some (.pv (lstI ns)), some (.pv (lstI [n0, n1, n2, n3])), some (.pv (.tup [.int (nT n0 n1), .int (nB n0 n1)])), some (.pv (.tup [.int (nT n2 n3), .int (nB n2 n3)])), some (.pv (rat a.C_Ratio (nT n0 n1) (nB n0 n1))), some (.pv (rat a.C_Ratio (nT n2 n3) (nB n2 n3))), v, some (.pv (.lst (dueL (nT n0 n1) (nB n0 n1) (nT n2 n3) (nB n2 n3)))), w], ?_, ?_⟩
    · simp (disch := decide) only [↓qVar_eq, ↓qC_eq, ↓qOp_eq, ↓qI_eq, ↓qI0_eq, ↓qEq_eq, ↓qIsN_eq, ↓qUn_eq, ↓qNeg_eq, ↓qB_eq, ↓qNotT_eq, ↓qAndT_eq, ↓qOrT_eq, ↓qAndV_eq, ↓qOrV_eq, ↓qNotV_eq, ↓qIf_eq, ↓qNil_eq, ↓qCons_eq, ↓qTup_eq, ↓qLst_eq, ↓qPart_eq, ↓qNoPart_eq, ↓qSl_eq, ↓qNext_eq, ↓qSeq_eq, ↓qBreak_eq, ↓qCont_eq, ↓qDrop_eq, ↓qRet_eq, ↓qRetN_eq, ↓qIfS_eq, ↓qNever_eq, ↓qSet_eq, ↓qOwn_eq, ↓qFreeze_eq, ↓qApp_eq, ↓qPar_eq, ↓qUnp_eq, ↓qUnpL_eq, ↓qFldS_eq, ↓qForL_eq, ↓qForT_eq, ↓qForR1_eq, ↓qForR2_eq, ↓qCall_eq, ↓qMake_eq, ↓qMeth_eq, ↓qProp_eq, ↓qCB_eq, ↓cAbs_eq, ↓cInt_eq, ↓cGcd_eq, ↓cLen_eq, ↓cLenS_eq, ↓qBits_eq, ↓qIsi_eq, ↓qBin_eq, ↓qUna_eq, ↓cAbsO_eq, ↓qEqO_eq, ↓qRaise_eq, ↓qTry_eq, ↓qXi_eq, ↓qLenO_eq, ↓qForR3_eq, ↓qIx_l, ↓qIx_t, ↓qFld_eq, ↓qXf_eq, ↓qSetIx_eq, ↓qIxO_eq, ↓qEqD_eq, ↓tryD_nx, ↓tryD_rt, ↓tryD_bk, ↓tryD_ct, ↓tryD_ex, ↓endsP_nx, ↓endsP_rt, ↓endsP_ex, ↓endsI_nx, ↓endsI_rt, ↓endsI_ex, ↓iAdd, ↓iSub, ↓iMul, ↓iDiv, ↓iMod, ↓iPow, ↓iLt, ↓iLe, ↓iGt, ↓iGe, atI_l0, atI_l1, atI_l2, atI_l3, atI_l4, atI_l5, atI_l6, atI_l7, atI_l8, atI_l9, atI_l10, atI_l11, atI_l12, lookup_hd, lookup_tl, putP_nil, putP_hd, putP_tl, List.lookup_nil, true_and, and_true, ↓reduceIte, if_true, if_false, exists_eq_left', exists_eq_left, Option.some.injEq, Sl.ins.injEq, Bool.false_xor, Bool.true_xor, beq_iff_eq, decide_eq_true_eq, Bool.not_true, Bool.not_false, Bool.false_eq_true, Nat.reduceLeDiff, Nat.reduceLT, Bool.not_eq_true', beq_eq_false_iff_ne, decide_eq_false_iff_not, reduceCtorEq, ne_eq, not_false_eq_true, not_true_eq_false, true_imp_iff, false_imp_iff, forall_const, beq_self_eq_true, Bool.and_self, isiInt, isiBool, isiStr, isiC, nfC, inL, startP, startI, setAll, List.map_cons, List.map_nil, List.length_cons, List.length_nil, List.cons_append, List.nil_append, List.append_nil, List.replicate, List.getElem?_cons_zero, List.getElem?_cons_succ, List.set_cons_zero, List.set_cons_succ, Nat.reduceSub, Nat.reduceAdd, List.getD_cons_zero]
      refine ⟨by decide, by decide, ?_⟩
      refine loop_at (fun _ ρ => ∃ v w, ρ = [some (.pv (lstI ns)), some (.pv (lstI [n0, n1, n2, n3])), some (.pv (.tup [.int (nT n0 n1), .int (nB n0 n1)])), some (.pv (.tup [.int (nT n2 n3), .int (nB n2 n3)])), some (.pv (rat a.C_Ratio (nT n0 n1) (nB n0 n1))), some (.pv (rat a.C_Ratio (nT n2 n3) (nB n2 n3))), v, some (.pv (.lst (dueL (nT n0 n1) (nB n0 n1) (nT n2 n3) (nB n2 n3)))), w]) ⟨_, _, rfl⟩ ?_ (fun _ h => h)
      rintro j x ρ N hx hN ⟨v, w, rfl⟩
      simp (disch := decide) only [↓qVar_eq, ↓qC_eq, ↓qOp_eq, ↓qI_eq, ↓qI0_eq, ↓qEq_eq, ↓qIsN_eq, ↓qUn_eq, ↓qNeg_eq, ↓qB_eq, ↓qNotT_eq, ↓qAndT_eq, ↓qOrT_eq, ↓qAndV_eq, ↓qOrV_eq, ↓qNotV_eq, ↓qIf_eq, ↓qNil_eq, ↓qCons_eq, ↓qTup_eq, ↓qLst_eq, ↓qPart_eq, ↓qNoPart_eq, ↓qSl_eq, ↓qNext_eq, ↓qSeq_eq, ↓qBreak_eq, ↓qCont_eq, ↓qDrop_eq, ↓qRet_eq, ↓qRetN_eq, ↓qIfS_eq, ↓qNever_eq, ↓qSet_eq, ↓qOwn_eq, ↓qFreeze_eq, ↓qApp_eq, ↓qPar_eq, ↓qUnp_eq, ↓qUnpL_eq, ↓qFldS_eq, ↓qForL_eq, ↓qForT_eq, ↓qForR1_eq, ↓qForR2_eq, ↓qCall_eq, ↓qMake_eq, ↓qMeth_eq, ↓qProp_eq, ↓qCB_eq, ↓cAbs_eq, ↓cInt_eq, ↓cGcd_eq, ↓cLen_eq, ↓cLenS_eq, ↓qBits_eq, ↓qIsi_eq, ↓qBin_eq, ↓qUna_eq, ↓cAbsO_eq, ↓qEqO_eq, ↓qRaise_eq, ↓qTry_eq, ↓qXi_eq, ↓qLenO_eq, ↓qForR3_eq, ↓qIx_l, ↓qIx_t, ↓qFld_eq, ↓qXf_eq, ↓qSetIx_eq, ↓qIxO_eq, ↓qEqD_eq, ↓tryD_nx, ↓tryD_rt, ↓tryD_bk, ↓tryD_ct, ↓tryD_ex, ↓endsP_nx, ↓endsP_rt, ↓endsP_ex, ↓endsI_nx, ↓endsI_rt, ↓endsI_ex, ↓iAdd, ↓iSub, ↓iMul, ↓iDiv, ↓iMod, ↓iPow, ↓iLt, ↓iLe, ↓iGt, ↓iGe, atI_l0, atI_l1, atI_l2, atI_l3, atI_l4, atI_l5, atI_l6, atI_l7, atI_l8, atI_l9, atI_l10, atI_l11, atI_l12, lookup_hd, lookup_tl, putP_nil, putP_hd, putP_tl, List.lookup_nil, true_and, and_true, ↓reduceIte, if_true, if_false, exists_eq_left', exists_eq_left, Option.some.injEq, Sl.ins.injEq, Bool.false_xor, Bool.true_xor, beq_iff_eq, decide_eq_true_eq, Bool.not_true, Bool.not_false, Bool.false_eq_true, Nat.reduceLeDiff, Nat.reduceLT, Bool.not_eq_true', beq_eq_false_iff_ne, decide_eq_false_iff_not, reduceCtorEq, ne_eq, not_false_eq_true, not_true_eq_false, true_imp_iff, false_imp_iff, forall_const, beq_self_eq_true, Bool.and_self, isiInt, isiBool, isiStr, isiC, nfC, inL, startP, startI, setAll, List.map_cons, List.map_nil, List.length_cons, List.length_nil, List.cons_append, List.nil_append, List.append_nil, List.replicate, List.getElem?_cons_zero, List.getElem?_cons_succ, List.set_cons_zero, List.set_cons_succ, Nat.reduceSub, Nat.reduceAdd, List.getD_cons_zero, ↓i_results, ↓i_quotient, ↓i_order, t1, t2]
      exact hN _ ⟨_, _, rfl⟩
    · rintro ρ' ⟨v, w, rfl⟩
      simp (disch := decide) only [↓qVar_eq, ↓qC_eq, ↓qOp_eq, ↓qI_eq, ↓qI0_eq, ↓qEq_eq, ↓qIsN_eq, ↓qUn_eq, ↓qNeg_eq, ↓qB_eq, ↓qNotT_eq, ↓qAndT_eq, ↓qOrT_eq, ↓qAndV_eq, ↓qOrV_eq, ↓qNotV_eq, ↓qIf_eq, ↓qNil_eq, ↓qCons_eq, ↓qTup_eq, ↓qLst_eq, ↓qPart_eq, ↓qNoPart_eq, ↓qSl_eq, ↓qNext_eq, ↓qSeq_eq, ↓qBreak_eq, ↓qCont_eq, ↓qDrop_eq, ↓qRet_eq, ↓qRetN_eq, ↓qIfS_eq, ↓qNever_eq, ↓qSet_eq, ↓qOwn_eq, ↓qFreeze_eq, ↓qApp_eq, ↓qPar_eq, ↓qUnp_eq, ↓qUnpL_eq, ↓qFldS_eq, ↓qForL_eq, ↓qForT_eq, ↓qForR1_eq, ↓qForR2_eq, ↓qCall_eq, ↓qMake_eq, ↓qMeth_eq, ↓qProp_eq, ↓qCB_eq, ↓cAbs_eq, ↓cInt_eq, ↓cGcd_eq, ↓cLen_eq, ↓cLenS_eq, ↓qBits_eq, ↓qIsi_eq, ↓qBin_eq, ↓qUna_eq, ↓cAbsO_eq, ↓qEqO_eq, ↓qRaise_eq, ↓qTry_eq, ↓qXi_eq, ↓qLenO_eq, ↓qForR3_eq, ↓qIx_l, ↓qIx_t, ↓qFld_eq, ↓qXf_eq, ↓qSetIx_eq, ↓qIxO_eq, ↓qEqD_eq, ↓tryD_nx, ↓tryD_rt, ↓tryD_bk, ↓tryD_ct, ↓tryD_ex, ↓endsP_nx, ↓endsP_rt, ↓endsP_ex, ↓endsI_nx, ↓endsI_rt, ↓endsI_ex, ↓iAdd, ↓iSub, ↓iMul, ↓iDiv, ↓iMod, ↓iPow, ↓iLt, ↓iLe, ↓iGt, ↓iGe, atI_l0, atI_l1, atI_l2, atI_l3, atI_l4, atI_l5, atI_l6, atI_l7, atI_l8, atI_l9, atI_l10, atI_l11, atI_l12, lookup_hd, lookup_tl, putP_nil, putP_hd, putP_tl, List.lookup_nil, true_and, and_true, ↓reduceIte, if_true, if_false, exists_eq_left', exists_eq_left, Option.some.injEq, Sl.ins.injEq, Bool.false_xor, Bool.true_xor, beq_iff_eq, decide_eq_true_eq, Bool.not_true, Bool.not_false, Bool.false_eq_true, Nat.reduceLeDiff, Nat.reduceLT, Bool.not_eq_true', beq_eq_false_iff_ne, decide_eq_false_iff_not, reduceCtorEq, ne_eq, not_false_eq_true, not_true_eq_false, true_imp_iff, false_imp_iff, forall_const, beq_self_eq_true, Bool.and_self, isiInt, isiBool, isiStr, isiC, nfC, inL, startP, startI, setAll, List.map_cons, List.map_nil, List.length_cons, List.length_nil, List.cons_append, List.nil_append, List.append_nil, List.replicate, List.getElem?_cons_zero, List.getElem?_cons_succ, List.set_cons_zero, List.set_cons_succ, Nat.reduceSub, Nat.reduceAdd, List.getD_cons_zero, ↓i_is]
      exact h

end
end L_k00
namespace L_k00
open PySem PySem.Spec PyProof.Rows L2 QL
theorem all_mk {l : PySem.W.OpenLaw} {w : World} {K : PySem.W.Frag} {h : Heap} {mg : Str → Option Value} {fa : Addr} (X : K.In h) (G : h.Ns mainGlobals mg) (hfa : mg "law" = some (.ref fa))
    {C_Ratio : Addr}
    {C_ZeroBottom : Addr}
    {C_LastrowsError : Addr}
    {C_Empty : Addr}
    {C_BadText : Addr}
    {f_shared_part : Addr}
    {od_shared_part : Option Addr}
    {an_shared_part : Option Addr}
    {sl_shared_part : Array (Option Value)}
    {oc_shared_part : Value}
    {kV_shared_part : Value}
    {dc_shared_part : Value}
    {pm_shared_part : Value}
    {cd_shared_part : Value}
    {ct_shared_part : Value}
    {f_Ratio_init : Addr}
    {od_Ratio_init : Option Addr}
    {an_Ratio_init : Option Addr}
    {sl_Ratio_init : Array (Option Value)}
    {oc_Ratio_init : Value}
    {kV_Ratio_init : Value}
    {dc_Ratio_init : Value}
    {pm_Ratio_init : Value}
    {cd_Ratio_init : Value}
    {ct_Ratio_init : Value}
    {T_Ratio_init : Addr}
    {To_Ratio_init : Obj}
    {ti_Ratio_init : List Value}
    {tn_Ratio_init : Nat}
    {f_Ratio_sign : Addr}
    {p_Ratio_sign : Addr}
    {r_Ratio_sign : List Value}
    {od_Ratio_sign : Option Addr}
    {an_Ratio_sign : Option Addr}
    {sl_Ratio_sign : Array (Option Value)}
    {oc_Ratio_sign : Value}
    {kV_Ratio_sign : Value}
    {dc_Ratio_sign : Value}
    {pm_Ratio_sign : Value}
    {cd_Ratio_sign : Value}
    {ct_Ratio_sign : Value}
    {f_Ratio_is_zero : Addr}
    {p_Ratio_is_zero : Addr}
    {r_Ratio_is_zero : List Value}
    {od_Ratio_is_zero : Option Addr}
    {an_Ratio_is_zero : Option Addr}
    {sl_Ratio_is_zero : Array (Option Value)}
    {oc_Ratio_is_zero : Value}
    {kV_Ratio_is_zero : Value}
    {dc_Ratio_is_zero : Value}
    {pm_Ratio_is_zero : Value}
    {cd_Ratio_is_zero : Value}
    {ct_Ratio_is_zero : Value}
    {f_Ratio_add : Addr}
    {od_Ratio_add : Option Addr}
    {an_Ratio_add : Option Addr}
    {sl_Ratio_add : Array (Option Value)}
    {oc_Ratio_add : Value}
    {kV_Ratio_add : Value}
    {dc_Ratio_add : Value}
    {pm_Ratio_add : Value}
    {cd_Ratio_add : Value}
    {ct_Ratio_add : Value}
    {f_Ratio_sub : Addr}
    {od_Ratio_sub : Option Addr}
    {an_Ratio_sub : Option Addr}
    {sl_Ratio_sub : Array (Option Value)}
    {oc_Ratio_sub : Value}
    {kV_Ratio_sub : Value}
    {dc_Ratio_sub : Value}
    {pm_Ratio_sub : Value}
    {cd_Ratio_sub : Value}
    {ct_Ratio_sub : Value}
    {f_Ratio_mul : Addr}
    {od_Ratio_mul : Option Addr}
    {an_Ratio_mul : Option Addr}
    {sl_Ratio_mul : Array (Option Value)}
    {oc_Ratio_mul : Value}
    {kV_Ratio_mul : Value}
    {dc_Ratio_mul : Value}
    {pm_Ratio_mul : Value}
    {cd_Ratio_mul : Value}
    {ct_Ratio_mul : Value}
    {f_Ratio_neg : Addr}
    {od_Ratio_neg : Option Addr}
    {an_Ratio_neg : Option Addr}
    {sl_Ratio_neg : Array (Option Value)}
    {oc_Ratio_neg : Value}
    {kV_Ratio_neg : Value}
    {dc_Ratio_neg : Value}
    {pm_Ratio_neg : Value}
    {cd_Ratio_neg : Value}
    {ct_Ratio_neg : Value}
    {f_Ratio_abs : Addr}
    {od_Ratio_abs : Option Addr}
    {an_Ratio_abs : Option Addr}
    {sl_Ratio_abs : Array (Option Value)}
    {oc_Ratio_abs : Value}
    {kV_Ratio_abs : Value}
    {dc_Ratio_abs : Value}
    {pm_Ratio_abs : Value}
    {cd_Ratio_abs : Value}
    {ct_Ratio_abs : Value}
    {f_Ratio_eq : Addr}
    {od_Ratio_eq : Option Addr}
    {an_Ratio_eq : Option Addr}
    {sl_Ratio_eq : Array (Option Value)}
    {oc_Ratio_eq : Value}
    {kV_Ratio_eq : Value}
    {dc_Ratio_eq : Value}
    {pm_Ratio_eq : Value}
    {cd_Ratio_eq : Value}
    {ct_Ratio_eq : Value}
    {f_Ratio_over : Addr}
    {od_Ratio_over : Option Addr}
    {an_Ratio_over : Option Addr}
    {sl_Ratio_over : Array (Option Value)}
    {oc_Ratio_over : Value}
    {kV_Ratio_over : Value}
    {dc_Ratio_over : Value}
    {pm_Ratio_over : Value}
    {cd_Ratio_over : Value}
    {ct_Ratio_over : Value}
    {f_Ratio_below : Addr}
    {od_Ratio_below : Option Addr}
    {an_Ratio_below : Option Addr}
    {sl_Ratio_below : Array (Option Value)}
    {oc_Ratio_below : Value}
    {kV_Ratio_below : Value}
    {dc_Ratio_below : Value}
    {pm_Ratio_below : Value}
    {cd_Ratio_below : Value}
    {ct_Ratio_below : Value}
    {f_law_cell : Addr}
    {od_law_cell : Option Addr}
    {an_law_cell : Option Addr}
    {sl_law_cell : Array (Option Value)}
    {oc_law_cell : Value}
    {kV_law_cell : Value}
    {dc_law_cell : Value}
    {pm_law_cell : Value}
    {cd_law_cell : Value}
    {ct_law_cell : Value}
    {f_law_mix : Addr}
    {od_law_mix : Option Addr}
    {an_law_mix : Option Addr}
    {sl_law_mix : Array (Option Value)}
    {oc_law_mix : Value}
    {kV_law_mix : Value}
    {dc_law_mix : Value}
    {pm_law_mix : Value}
    {cd_law_mix : Value}
    {ct_law_mix : Value}
    {f_law_draws : Addr}
    {od_law_draws : Option Addr}
    {an_law_draws : Option Addr}
    {sl_law_draws : Array (Option Value)}
    {oc_law_draws : Value}
    {kV_law_draws : Value}
    {dc_law_draws : Value}
    {pm_law_draws : Value}
    {cd_law_draws : Value}
    {ct_law_draws : Value}
    {f_law_small : Addr}
    {od_law_small : Option Addr}
    {an_law_small : Option Addr}
    {sl_law_small : Array (Option Value)}
    {oc_law_small : Value}
    {kV_law_small : Value}
    {dc_law_small : Value}
    {pm_law_small : Value}
    {cd_law_small : Value}
    {ct_law_small : Value}
    {f_law_is_integer : Addr}
    {od_law_is_integer : Option Addr}
    {an_law_is_integer : Option Addr}
    {sl_law_is_integer : Array (Option Value)}
    {oc_law_is_integer : Value}
    {kV_law_is_integer : Value}
    {dc_law_is_integer : Value}
    {pm_law_is_integer : Value}
    {cd_law_is_integer : Value}
    {ct_law_is_integer : Value}
    {f_law_gcd : Addr}
    {od_law_gcd : Option Addr}
    {an_law_gcd : Option Addr}
    {sl_law_gcd : Array (Option Value)}
    {oc_law_gcd : Value}
    {kV_law_gcd : Value}
    {dc_law_gcd : Value}
    {pm_law_gcd : Value}
    {cd_law_gcd : Value}
    {ct_law_gcd : Value}
    {f_law_ratio : Addr}
    {od_law_ratio : Option Addr}
    {an_law_ratio : Option Addr}
    {sl_law_ratio : Array (Option Value)}
    {oc_law_ratio : Value}
    {kV_law_ratio : Value}
    {dc_law_ratio : Value}
    {pm_law_ratio : Value}
    {cd_law_ratio : Value}
    {ct_law_ratio : Value}
    {f_law_numbers : Addr}
    {od_law_numbers : Option Addr}
    {an_law_numbers : Option Addr}
    {sl_law_numbers : Array (Option Value)}
    {oc_law_numbers : Value}
    {kV_law_numbers : Value}
    {dc_law_numbers : Value}
    {pm_law_numbers : Value}
    {cd_law_numbers : Value}
    {ct_law_numbers : Value}
    {f_law_is : Addr}
    {od_law_is : Option Addr}
    {an_law_is : Option Addr}
    {sl_law_is : Array (Option Value)}
    {oc_law_is : Value}
    {kV_law_is : Value}
    {dc_law_is : Value}
    {pm_law_is : Value}
    {cd_law_is : Value}
    {ct_law_is : Value}
    {f_law_truth : Addr}
    {od_law_truth : Option Addr}
    {an_law_truth : Option Addr}
    {sl_law_truth : Array (Option Value)}
    {oc_law_truth : Value}
    {kV_law_truth : Value}
    {dc_law_truth : Value}
    {pm_law_truth : Value}
    {cd_law_truth : Value}
    {ct_law_truth : Value}
    {f_law_dues : Addr}
    {od_law_dues : Option Addr}
    {an_law_dues : Option Addr}
    {sl_law_dues : Array (Option Value)}
    {oc_law_dues : Value}
    {kV_law_dues : Value}
    {dc_law_dues : Value}
    {pm_law_dues : Value}
    {cd_law_dues : Value}
    {ct_law_dues : Value}
    {f_law_results : Addr}
    {od_law_results : Option Addr}
    {an_law_results : Option Addr}
    {sl_law_results : Array (Option Value)}
    {oc_law_results : Value}
    {kV_law_results : Value}
    {dc_law_results : Value}
    {pm_law_results : Value}
    {cd_law_results : Value}
    {ct_law_results : Value}
    {f_law_quotient : Addr}
    {od_law_quotient : Option Addr}
    {an_law_quotient : Option Addr}
    {sl_law_quotient : Array (Option Value)}
    {oc_law_quotient : Value}
    {kV_law_quotient : Value}
    {dc_law_quotient : Value}
    {pm_law_quotient : Value}
    {cd_law_quotient : Value}
    {ct_law_quotient : Value}
    {f_law_order : Addr}
    {od_law_order : Option Addr}
    {an_law_order : Option Addr}
    {sl_law_order : Array (Option Value)}
    {oc_law_order : Value}
    {kV_law_order : Value}
    {dc_law_order : Value}
    {pm_law_order : Value}
    {cd_law_order : Value}
    {ct_law_order : Value}
    {f_law_zero_bottom : Addr}
    {od_law_zero_bottom : Option Addr}
    {an_law_zero_bottom : Option Addr}
    {sl_law_zero_bottom : Array (Option Value)}
    {oc_law_zero_bottom : Value}
    {kV_law_zero_bottom : Value}
    {dc_law_zero_bottom : Value}
    {pm_law_zero_bottom : Value}
    {cd_law_zero_bottom : Value}
    {ct_law_zero_bottom : Value}
    {f_law : Addr}
    {od_law : Option Addr}
    {an_law : Option Addr}
    {sl_law : Array (Option Value)}
    {oc_law : Value}
    {kV_law : Value}
    {dc_law : Value}
    {pm_law : Value}
    {cd_law : Value}
    {ct_law : Value}
    {nm_ZeroBottom : Str}
    {qq_ZeroBottom : Str}
    {N_ZeroBottom : Addr}
    {bs_ZeroBottom : List Value}
    {bm_ZeroBottom : List Value}
    {sn_ZeroBottom : List Str}
    {sb_ZeroBottom : List Value}
    {ab_ZeroBottom : Bool}
    {col_ZeroBottom : Option Bool}
    {dd_ZeroBottom : Option Addr}
    {m0_ZeroBottom : Option Value}
    {m1_ZeroBottom : Option Value}
    {m2_ZeroBottom : Option Value}
    {m3_ZeroBottom : Option Value}
    {m5_ZeroBottom : Option Value}
    {f_xZeroBottom : Addr}
    {od_xZeroBottom : Option Addr}
    {an_xZeroBottom : Option Addr}
    {sl_xZeroBottom : Array (Option Value)}
    {oc_xZeroBottom : Value}
    {kV_xZeroBottom : Value}
    {dc_xZeroBottom : Value}
    {pm_xZeroBottom : Value}
    {cd_xZeroBottom : Value}
    {ct_xZeroBottom : Value}
    (a_Ratio : PySem.W.nsIn K mainGlobals "Ratio" = some (some (.ref C_Ratio)))
    (a_ZeroBottom : PySem.W.nsIn K mainGlobals "ZeroBottom" = some (some (.ref C_ZeroBottom)))
    (a_LastrowsError : PySem.W.nsIn K mainGlobals "LastrowsError" = some (some (.ref C_LastrowsError)))
    (a_Empty : PySem.W.nsIn K mainGlobals "Empty" = some (some (.ref C_Empty)))
    (a_BadText : PySem.W.nsIn K mainGlobals "BadText" = some (some (.ref C_BadText)))
    (og : PySem.W.specialIn K (.builtin "object.__class__") "__get__" = some (some (.builtin "getset_descriptor.__get__")))
    (ot : PySem.W.takesIn K (.builtin "object.__class__") = some true)
    (pg_Ratio : PySem.W.plainGet K C_Ratio Str.empty = true)
    (hd_Ratio : PySem.W.hasDictIn K C_Ratio = true)
    (po_Ratio : PySem.W.plainOver K C_Ratio = true)
    (sa_Ratio : PySem.W.findIn K (.ref C_Ratio) "__setattr__" = some (some (.builtin "object.__setattr__")))
    (kc_Ratio : PySem.W.findIn K (.ref C_Ratio) "__class__" = some (some (.builtin "object.__class__")))
    (mo_Ratio : PySem.W.mroIn K C_Ratio (.type "object") = some true)
    (ic_Ratio : PySem.W.isClsIn K C_Ratio = true)
    (ti_Ratio : PySem.W.typeIn K (.ref C_Ratio) = some (.type "type"))
    (sf_Ratio : PySem.W.selfFirst K C_Ratio = true)
    (ne_Ratio : PySem.W.findIn K (.ref C_Ratio) "__ne__" = some (some (.builtin "object.__ne__")))
    (mk_Ratio : PySem.W.makesIn K C_Ratio = true)
    (kp_Ratio : PySem.W.keepIn K (.ref C_Ratio) = true)
    (su_Ratio_int : PySem.W.subIn K (.type "int") (.ref C_Ratio) = some false)
    (no_Ratio_int : PySem.W.notFirst K C_Ratio (.type "int") = true)
    (su_Ratio_bool : PySem.W.subIn K (.type "bool") (.ref C_Ratio) = some false)
    (no_Ratio_bool : PySem.W.notFirst K C_Ratio (.type "bool") = true)
    (su_Ratio_str : PySem.W.subIn K (.type "str") (.ref C_Ratio) = some false)
    (no_Ratio_str : PySem.W.notFirst K C_Ratio (.type "str") = true)
    (su_Ratio_NoneType : PySem.W.subIn K (.type "NoneType") (.ref C_Ratio) = some false)
    (no_Ratio_NoneType : PySem.W.notFirst K C_Ratio (.type "NoneType") = true)
    (su_Ratio_list : PySem.W.subIn K (.type "list") (.ref C_Ratio) = some false)
    (no_Ratio_list : PySem.W.notFirst K C_Ratio (.type "list") = true)
    (su_Ratio_tuple : PySem.W.subIn K (.type "tuple") (.ref C_Ratio) = some false)
    (no_Ratio_tuple : PySem.W.notFirst K C_Ratio (.type "tuple") = true)
    (na_Ratio_top : PySem.W.findIn K (.ref C_Ratio) "top" = some none)
    (na_Ratio_bottom : PySem.W.findIn K (.ref C_Ratio) "bottom" = some none)
    (a_shared_part : PySem.W.nsIn K mainGlobals "shared_part" = some (some (.ref f_shared_part)))
    (l_shared_part : K.lookup f_shared_part = some ⟨oc_shared_part, od_shared_part, .func (PySem.W.fnOf "shared_part" "shared_part" (defArgs s_shared_part) (defBody s_shared_part) (defScope s_shared_part) .none kV_shared_part dc_shared_part pm_shared_part an_shared_part cd_shared_part ct_shared_part), sl_shared_part⟩)
    (c_shared_part : PySem.W.codeIn K cd_shared_part "shared_part" = true)
    (k_shared_part : PySem.W.keepIn K (.ref f_shared_part) = true)
    (a_Ratio_init : PySem.W.findIn K (.ref C_Ratio) "__init__" = some (some (.ref f_Ratio_init)))
    (i_Ratio_init : PySem.W.isFn K (.ref f_Ratio_init) = true)
    (l_Ratio_init : K.lookup f_Ratio_init = some ⟨oc_Ratio_init, od_Ratio_init, .func (PySem.W.fnOf "__init__" "Ratio.__init__" (defArgs s_Ratio_init) (defBody s_Ratio_init) (defScope s_Ratio_init) (.ref T_Ratio_init) kV_Ratio_init dc_Ratio_init pm_Ratio_init an_Ratio_init cd_Ratio_init ct_Ratio_init), sl_Ratio_init⟩)
    (c_Ratio_init : PySem.W.codeIn K cd_Ratio_init "Ratio.__init__" = true)
    (k_Ratio_init : PySem.W.keepIn K (.ref f_Ratio_init) = true)
    (lT_Ratio_init : K.lookup T_Ratio_init = some To_Ratio_init)
    (dT_Ratio_init : To_Ratio_init.data = .seq (ti_Ratio_init).toArray tn_Ratio_init)
    (vT_Ratio_init : Vals ([V.int 1]) ti_Ratio_init)
    (a_Ratio_sign : PySem.W.findIn K (.ref C_Ratio) "sign" = some (some (.ref p_Ratio_sign)))
    (g_Ratio_sign : PySem.W.specialIn K (.ref p_Ratio_sign) "__get__" = some (some (.builtin "property.__get__")))
    (t_Ratio_sign : PySem.W.takesIn K (.ref p_Ratio_sign) = some true)
    (e_Ratio_sign : PySem.W.recIn K p_Ratio_sign "property" = some (.ref f_Ratio_sign :: r_Ratio_sign))
    (l_Ratio_sign : K.lookup f_Ratio_sign = some ⟨oc_Ratio_sign, od_Ratio_sign, .func (PySem.W.fnOf "sign" "Ratio.sign" (defArgs s_Ratio_sign) (defBody s_Ratio_sign) (defScope s_Ratio_sign) .none kV_Ratio_sign dc_Ratio_sign pm_Ratio_sign an_Ratio_sign cd_Ratio_sign ct_Ratio_sign), sl_Ratio_sign⟩)
    (c_Ratio_sign : PySem.W.codeIn K cd_Ratio_sign "Ratio.sign" = true)
    (k_Ratio_sign : PySem.W.keepIn K (.ref f_Ratio_sign) = true)
    (a_Ratio_is_zero : PySem.W.findIn K (.ref C_Ratio) "is_zero" = some (some (.ref p_Ratio_is_zero)))
    (g_Ratio_is_zero : PySem.W.specialIn K (.ref p_Ratio_is_zero) "__get__" = some (some (.builtin "property.__get__")))
    (t_Ratio_is_zero : PySem.W.takesIn K (.ref p_Ratio_is_zero) = some true)
    (e_Ratio_is_zero : PySem.W.recIn K p_Ratio_is_zero "property" = some (.ref f_Ratio_is_zero :: r_Ratio_is_zero))
    (l_Ratio_is_zero : K.lookup f_Ratio_is_zero = some ⟨oc_Ratio_is_zero, od_Ratio_is_zero, .func (PySem.W.fnOf "is_zero" "Ratio.is_zero" (defArgs s_Ratio_is_zero) (defBody s_Ratio_is_zero) (defScope s_Ratio_is_zero) .none kV_Ratio_is_zero dc_Ratio_is_zero pm_Ratio_is_zero an_Ratio_is_zero cd_Ratio_is_zero ct_Ratio_is_zero), sl_Ratio_is_zero⟩)
    (c_Ratio_is_zero : PySem.W.codeIn K cd_Ratio_is_zero "Ratio.is_zero" = true)
    (k_Ratio_is_zero : PySem.W.keepIn K (.ref f_Ratio_is_zero) = true)
    (a_Ratio_add : PySem.W.findIn K (.ref C_Ratio) "__add__" = some (some (.ref f_Ratio_add)))
    (i_Ratio_add : PySem.W.isFn K (.ref f_Ratio_add) = true)
    (l_Ratio_add : K.lookup f_Ratio_add = some ⟨oc_Ratio_add, od_Ratio_add, .func (PySem.W.fnOf "__add__" "Ratio.__add__" (defArgs s_Ratio_add) (defBody s_Ratio_add) (defScope s_Ratio_add) .none kV_Ratio_add dc_Ratio_add pm_Ratio_add an_Ratio_add cd_Ratio_add ct_Ratio_add), sl_Ratio_add⟩)
    (c_Ratio_add : PySem.W.codeIn K cd_Ratio_add "Ratio.__add__" = true)
    (k_Ratio_add : PySem.W.keepIn K (.ref f_Ratio_add) = true)
    (a_Ratio_sub : PySem.W.findIn K (.ref C_Ratio) "__sub__" = some (some (.ref f_Ratio_sub)))
    (i_Ratio_sub : PySem.W.isFn K (.ref f_Ratio_sub) = true)
    (l_Ratio_sub : K.lookup f_Ratio_sub = some ⟨oc_Ratio_sub, od_Ratio_sub, .func (PySem.W.fnOf "__sub__" "Ratio.__sub__" (defArgs s_Ratio_sub) (defBody s_Ratio_sub) (defScope s_Ratio_sub) .none kV_Ratio_sub dc_Ratio_sub pm_Ratio_sub an_Ratio_sub cd_Ratio_sub ct_Ratio_sub), sl_Ratio_sub⟩)
    (c_Ratio_sub : PySem.W.codeIn K cd_Ratio_sub "Ratio.__sub__" = true)
    (k_Ratio_sub : PySem.W.keepIn K (.ref f_Ratio_sub) = true)
    (a_Ratio_mul : PySem.W.findIn K (.ref C_Ratio) "__mul__" = some (some (.ref f_Ratio_mul)))
    (i_Ratio_mul : PySem.W.isFn K (.ref f_Ratio_mul) = true)
    (l_Ratio_mul : K.lookup f_Ratio_mul = some ⟨oc_Ratio_mul, od_Ratio_mul, .func (PySem.W.fnOf "__mul__" "Ratio.__mul__" (defArgs s_Ratio_mul) (defBody s_Ratio_mul) (defScope s_Ratio_mul) .none kV_Ratio_mul dc_Ratio_mul pm_Ratio_mul an_Ratio_mul cd_Ratio_mul ct_Ratio_mul), sl_Ratio_mul⟩)
    (c_Ratio_mul : PySem.W.codeIn K cd_Ratio_mul "Ratio.__mul__" = true)
    (k_Ratio_mul : PySem.W.keepIn K (.ref f_Ratio_mul) = true)
    (a_Ratio_neg : PySem.W.findIn K (.ref C_Ratio) "__neg__" = some (some (.ref f_Ratio_neg)))
    (i_Ratio_neg : PySem.W.isFn K (.ref f_Ratio_neg) = true)
    (l_Ratio_neg : K.lookup f_Ratio_neg = some ⟨oc_Ratio_neg, od_Ratio_neg, .func (PySem.W.fnOf "__neg__" "Ratio.__neg__" (defArgs s_Ratio_neg) (defBody s_Ratio_neg) (defScope s_Ratio_neg) .none kV_Ratio_neg dc_Ratio_neg pm_Ratio_neg an_Ratio_neg cd_Ratio_neg ct_Ratio_neg), sl_Ratio_neg⟩)
    (c_Ratio_neg : PySem.W.codeIn K cd_Ratio_neg "Ratio.__neg__" = true)
    (k_Ratio_neg : PySem.W.keepIn K (.ref f_Ratio_neg) = true)
    (a_Ratio_abs : PySem.W.findIn K (.ref C_Ratio) "__abs__" = some (some (.ref f_Ratio_abs)))
    (i_Ratio_abs : PySem.W.isFn K (.ref f_Ratio_abs) = true)
    (l_Ratio_abs : K.lookup f_Ratio_abs = some ⟨oc_Ratio_abs, od_Ratio_abs, .func (PySem.W.fnOf "__abs__" "Ratio.__abs__" (defArgs s_Ratio_abs) (defBody s_Ratio_abs) (defScope s_Ratio_abs) .none kV_Ratio_abs dc_Ratio_abs pm_Ratio_abs an_Ratio_abs cd_Ratio_abs ct_Ratio_abs), sl_Ratio_abs⟩)
    (c_Ratio_abs : PySem.W.codeIn K cd_Ratio_abs "Ratio.__abs__" = true)
    (k_Ratio_abs : PySem.W.keepIn K (.ref f_Ratio_abs) = true)
    (a_Ratio_eq : PySem.W.findIn K (.ref C_Ratio) "__eq__" = some (some (.ref f_Ratio_eq)))
    (i_Ratio_eq : PySem.W.isFn K (.ref f_Ratio_eq) = true)
    (l_Ratio_eq : K.lookup f_Ratio_eq = some ⟨oc_Ratio_eq, od_Ratio_eq, .func (PySem.W.fnOf "__eq__" "Ratio.__eq__" (defArgs s_Ratio_eq) (defBody s_Ratio_eq) (defScope s_Ratio_eq) .none kV_Ratio_eq dc_Ratio_eq pm_Ratio_eq an_Ratio_eq cd_Ratio_eq ct_Ratio_eq), sl_Ratio_eq⟩)
    (c_Ratio_eq : PySem.W.codeIn K cd_Ratio_eq "Ratio.__eq__" = true)
    (k_Ratio_eq : PySem.W.keepIn K (.ref f_Ratio_eq) = true)
    (a_Ratio_over : PySem.W.findIn K (.ref C_Ratio) "over" = some (some (.ref f_Ratio_over)))
    (i_Ratio_over : PySem.W.isFn K (.ref f_Ratio_over) = true)
    (l_Ratio_over : K.lookup f_Ratio_over = some ⟨oc_Ratio_over, od_Ratio_over, .func (PySem.W.fnOf "over" "Ratio.over" (defArgs s_Ratio_over) (defBody s_Ratio_over) (defScope s_Ratio_over) .none kV_Ratio_over dc_Ratio_over pm_Ratio_over an_Ratio_over cd_Ratio_over ct_Ratio_over), sl_Ratio_over⟩)
    (c_Ratio_over : PySem.W.codeIn K cd_Ratio_over "Ratio.over" = true)
    (k_Ratio_over : PySem.W.keepIn K (.ref f_Ratio_over) = true)
    (a_Ratio_below : PySem.W.findIn K (.ref C_Ratio) "below" = some (some (.ref f_Ratio_below)))
    (i_Ratio_below : PySem.W.isFn K (.ref f_Ratio_below) = true)
    (l_Ratio_below : K.lookup f_Ratio_below = some ⟨oc_Ratio_below, od_Ratio_below, .func (PySem.W.fnOf "below" "Ratio.below" (defArgs s_Ratio_below) (defBody s_Ratio_below) (defScope s_Ratio_below) .none kV_Ratio_below dc_Ratio_below pm_Ratio_below an_Ratio_below cd_Ratio_below ct_Ratio_below), sl_Ratio_below⟩)
    (c_Ratio_below : PySem.W.codeIn K cd_Ratio_below "Ratio.below" = true)
    (k_Ratio_below : PySem.W.keepIn K (.ref f_Ratio_below) = true)
    (a_law_cell : PySem.W.nsIn K mainGlobals "_law_cell" = some (some (.ref f_law_cell)))
    (l_law_cell : K.lookup f_law_cell = some ⟨oc_law_cell, od_law_cell, .func (PySem.W.fnOf "_law_cell" "_law_cell" (defArgs s_law_cell) (defBody s_law_cell) (defScope s_law_cell) .none kV_law_cell dc_law_cell pm_law_cell an_law_cell cd_law_cell ct_law_cell), sl_law_cell⟩)
    (c_law_cell : PySem.W.codeIn K cd_law_cell "_law_cell" = true)
    (k_law_cell : PySem.W.keepIn K (.ref f_law_cell) = true)
    (a_law_mix : PySem.W.nsIn K mainGlobals "_law_mix" = some (some (.ref f_law_mix)))
    (l_law_mix : K.lookup f_law_mix = some ⟨oc_law_mix, od_law_mix, .func (PySem.W.fnOf "_law_mix" "_law_mix" (defArgs s_law_mix) (defBody s_law_mix) (defScope s_law_mix) .none kV_law_mix dc_law_mix pm_law_mix an_law_mix cd_law_mix ct_law_mix), sl_law_mix⟩)
    (c_law_mix : PySem.W.codeIn K cd_law_mix "_law_mix" = true)
    (k_law_mix : PySem.W.keepIn K (.ref f_law_mix) = true)
    (a_law_draws : PySem.W.nsIn K mainGlobals "_law_draws" = some (some (.ref f_law_draws)))
    (l_law_draws : K.lookup f_law_draws = some ⟨oc_law_draws, od_law_draws, .func (PySem.W.fnOf "_law_draws" "_law_draws" (defArgs s_law_draws) (defBody s_law_draws) (defScope s_law_draws) .none kV_law_draws dc_law_draws pm_law_draws an_law_draws cd_law_draws ct_law_draws), sl_law_draws⟩)
    (c_law_draws : PySem.W.codeIn K cd_law_draws "_law_draws" = true)
    (k_law_draws : PySem.W.keepIn K (.ref f_law_draws) = true)
    (a_law_small : PySem.W.nsIn K mainGlobals "_law_small" = some (some (.ref f_law_small)))
    (l_law_small : K.lookup f_law_small = some ⟨oc_law_small, od_law_small, .func (PySem.W.fnOf "_law_small" "_law_small" (defArgs s_law_small) (defBody s_law_small) (defScope s_law_small) .none kV_law_small dc_law_small pm_law_small an_law_small cd_law_small ct_law_small), sl_law_small⟩)
    (c_law_small : PySem.W.codeIn K cd_law_small "_law_small" = true)
    (k_law_small : PySem.W.keepIn K (.ref f_law_small) = true)
    (a_law_is_integer : PySem.W.nsIn K mainGlobals "_law_is_integer" = some (some (.ref f_law_is_integer)))
    (l_law_is_integer : K.lookup f_law_is_integer = some ⟨oc_law_is_integer, od_law_is_integer, .func (PySem.W.fnOf "_law_is_integer" "_law_is_integer" (defArgs s_law_is_integer) (defBody s_law_is_integer) (defScope s_law_is_integer) .none kV_law_is_integer dc_law_is_integer pm_law_is_integer an_law_is_integer cd_law_is_integer ct_law_is_integer), sl_law_is_integer⟩)
    (c_law_is_integer : PySem.W.codeIn K cd_law_is_integer "_law_is_integer" = true)
    (k_law_is_integer : PySem.W.keepIn K (.ref f_law_is_integer) = true)
    (a_law_gcd : PySem.W.nsIn K mainGlobals "_law_gcd" = some (some (.ref f_law_gcd)))
    (l_law_gcd : K.lookup f_law_gcd = some ⟨oc_law_gcd, od_law_gcd, .func (PySem.W.fnOf "_law_gcd" "_law_gcd" (defArgs s_law_gcd) (defBody s_law_gcd) (defScope s_law_gcd) .none kV_law_gcd dc_law_gcd pm_law_gcd an_law_gcd cd_law_gcd ct_law_gcd), sl_law_gcd⟩)
    (c_law_gcd : PySem.W.codeIn K cd_law_gcd "_law_gcd" = true)
    (k_law_gcd : PySem.W.keepIn K (.ref f_law_gcd) = true)
    (a_law_ratio : PySem.W.nsIn K mainGlobals "_law_ratio" = some (some (.ref f_law_ratio)))
    (l_law_ratio : K.lookup f_law_ratio = some ⟨oc_law_ratio, od_law_ratio, .func (PySem.W.fnOf "_law_ratio" "_law_ratio" (defArgs s_law_ratio) (defBody s_law_ratio) (defScope s_law_ratio) .none kV_law_ratio dc_law_ratio pm_law_ratio an_law_ratio cd_law_ratio ct_law_ratio), sl_law_ratio⟩)
    (c_law_ratio : PySem.W.codeIn K cd_law_ratio "_law_ratio" = true)
    (k_law_ratio : PySem.W.keepIn K (.ref f_law_ratio) = true)
    (a_law_numbers : PySem.W.nsIn K mainGlobals "_law_numbers" = some (some (.ref f_law_numbers)))
    (l_law_numbers : K.lookup f_law_numbers = some ⟨oc_law_numbers, od_law_numbers, .func (PySem.W.fnOf "_law_numbers" "_law_numbers" (defArgs s_law_numbers) (defBody s_law_numbers) (defScope s_law_numbers) .none kV_law_numbers dc_law_numbers pm_law_numbers an_law_numbers cd_law_numbers ct_law_numbers), sl_law_numbers⟩)
    (c_law_numbers : PySem.W.codeIn K cd_law_numbers "_law_numbers" = true)
    (k_law_numbers : PySem.W.keepIn K (.ref f_law_numbers) = true)
    (a_law_is : PySem.W.nsIn K mainGlobals "_law_is" = some (some (.ref f_law_is)))
    (l_law_is : K.lookup f_law_is = some ⟨oc_law_is, od_law_is, .func (PySem.W.fnOf "_law_is" "_law_is" (defArgs s_law_is) (defBody s_law_is) (defScope s_law_is) .none kV_law_is dc_law_is pm_law_is an_law_is cd_law_is ct_law_is), sl_law_is⟩)
    (c_law_is : PySem.W.codeIn K cd_law_is "_law_is" = true)
    (k_law_is : PySem.W.keepIn K (.ref f_law_is) = true)
    (a_law_truth : PySem.W.nsIn K mainGlobals "_law_truth" = some (some (.ref f_law_truth)))
    (l_law_truth : K.lookup f_law_truth = some ⟨oc_law_truth, od_law_truth, .func (PySem.W.fnOf "_law_truth" "_law_truth" (defArgs s_law_truth) (defBody s_law_truth) (defScope s_law_truth) .none kV_law_truth dc_law_truth pm_law_truth an_law_truth cd_law_truth ct_law_truth), sl_law_truth⟩)
    (c_law_truth : PySem.W.codeIn K cd_law_truth "_law_truth" = true)
    (k_law_truth : PySem.W.keepIn K (.ref f_law_truth) = true)
    (a_law_dues : PySem.W.nsIn K mainGlobals "_law_dues" = some (some (.ref f_law_dues)))
    (l_law_dues : K.lookup f_law_dues = some ⟨oc_law_dues, od_law_dues, .func (PySem.W.fnOf "_law_dues" "_law_dues" (defArgs s_law_dues) (defBody s_law_dues) (defScope s_law_dues) .none kV_law_dues dc_law_dues pm_law_dues an_law_dues cd_law_dues ct_law_dues), sl_law_dues⟩)
    (c_law_dues : PySem.W.codeIn K cd_law_dues "_law_dues" = true)
    (k_law_dues : PySem.W.keepIn K (.ref f_law_dues) = true)
    (a_law_results : PySem.W.nsIn K mainGlobals "_law_results" = some (some (.ref f_law_results)))
    (l_law_results : K.lookup f_law_results = some ⟨oc_law_results, od_law_results, .func (PySem.W.fnOf "_law_results" "_law_results" (defArgs s_law_results) (defBody s_law_results) (defScope s_law_results) .none kV_law_results dc_law_results pm_law_results an_law_results cd_law_results ct_law_results), sl_law_results⟩)
    (c_law_results : PySem.W.codeIn K cd_law_results "_law_results" = true)
    (k_law_results : PySem.W.keepIn K (.ref f_law_results) = true)
    (a_law_quotient : PySem.W.nsIn K mainGlobals "_law_quotient" = some (some (.ref f_law_quotient)))
    (l_law_quotient : K.lookup f_law_quotient = some ⟨oc_law_quotient, od_law_quotient, .func (PySem.W.fnOf "_law_quotient" "_law_quotient" (defArgs s_law_quotient) (defBody s_law_quotient) (defScope s_law_quotient) .none kV_law_quotient dc_law_quotient pm_law_quotient an_law_quotient cd_law_quotient ct_law_quotient), sl_law_quotient⟩)
    (c_law_quotient : PySem.W.codeIn K cd_law_quotient "_law_quotient" = true)
    (k_law_quotient : PySem.W.keepIn K (.ref f_law_quotient) = true)
    (a_law_order : PySem.W.nsIn K mainGlobals "_law_order" = some (some (.ref f_law_order)))
    (l_law_order : K.lookup f_law_order = some ⟨oc_law_order, od_law_order, .func (PySem.W.fnOf "_law_order" "_law_order" (defArgs s_law_order) (defBody s_law_order) (defScope s_law_order) .none kV_law_order dc_law_order pm_law_order an_law_order cd_law_order ct_law_order), sl_law_order⟩)
    (c_law_order : PySem.W.codeIn K cd_law_order "_law_order" = true)
    (k_law_order : PySem.W.keepIn K (.ref f_law_order) = true)
    (a_law_zero_bottom : PySem.W.nsIn K mainGlobals "_law_zero_bottom" = some (some (.ref f_law_zero_bottom)))
    (l_law_zero_bottom : K.lookup f_law_zero_bottom = some ⟨oc_law_zero_bottom, od_law_zero_bottom, .func (PySem.W.fnOf "_law_zero_bottom" "_law_zero_bottom" (defArgs s_law_zero_bottom) (defBody s_law_zero_bottom) (defScope s_law_zero_bottom) .none kV_law_zero_bottom dc_law_zero_bottom pm_law_zero_bottom an_law_zero_bottom cd_law_zero_bottom ct_law_zero_bottom), sl_law_zero_bottom⟩)
    (c_law_zero_bottom : PySem.W.codeIn K cd_law_zero_bottom "_law_zero_bottom" = true)
    (k_law_zero_bottom : PySem.W.keepIn K (.ref f_law_zero_bottom) = true)
    (a_law : PySem.W.nsIn K mainGlobals "law" = some (some (.ref f_law)))
    (l_law : K.lookup f_law = some ⟨oc_law, od_law, .func (PySem.W.fnOf "law" "law" (defArgs s_law) (defBody s_law) (defScope s_law) .none kV_law dc_law pm_law an_law cd_law ct_law), sl_law⟩)
    (c_law : PySem.W.codeIn K cd_law "law" = true)
    (k_law : PySem.W.keepIn K (.ref f_law) = true)
    (xL_ZeroBottom : K.lookup C_ZeroBottom = some (excClassObj nm_ZeroBottom qq_ZeroBottom C_ZeroBottom N_ZeroBottom bs_ZeroBottom bm_ZeroBottom true sn_ZeroBottom sb_ZeroBottom ab_ZeroBottom col_ZeroBottom dd_ZeroBottom m0_ZeroBottom m1_ZeroBottom m2_ZeroBottom m3_ZeroBottom m5_ZeroBottom "ValueError.__new__"))
    (rv_ZeroBottom : PySem.HandSPX.refsVE bm_ZeroBottom = true)
    (ic_ZeroBottom : PySem.W.isClsIn K C_ZeroBottom = true)
    (ti_ZeroBottom : PySem.W.typeIn K (.ref C_ZeroBottom) = some (.type "type"))
    (xsa_ZeroBottom : PySem.W.findIn K (.ref C_ZeroBottom) "__setattr__" = some (some (.builtin "object.__setattr__")))
    (xb_ZeroBottom : PySem.W.subIn K (.ref C_ZeroBottom) (.type "BaseException") = some true)
    (xk_ZeroBottom : PySem.W.keepIn K (.ref C_ZeroBottom) = true)
    (xg_ZeroBottom : PySem.W.findIn K (.ref C_ZeroBottom) "__getattribute__" = some (some (.builtin "BaseException.__getattribute__")))
    (xh_ZeroBottom : PySem.W.findIn K (.ref C_ZeroBottom) "__getattr__" = some none)
    (xd_ZeroBottom : PySem.W.hasDictIn K C_ZeroBottom = true)
    (xcl_ZeroBottom : PySem.W.findIn K (.ref C_ZeroBottom) "__class__" = some (some (.builtin "object.__class__")))
    (xmo_ZeroBottom : PySem.W.mroIn K C_ZeroBottom (.type "object") = some true)
    (xs_ZeroBottom : PySem.W.subIn K (.ref C_ZeroBottom) (.ref C_ZeroBottom) = some true)
    (a_xZeroBottom : PySem.W.findIn K (.ref C_ZeroBottom) "__init__" = some (some (.ref f_xZeroBottom)))
    (t_xZeroBottom : PySem.W.typeIn K (.ref f_xZeroBottom) = some (.type "function"))
    (l_xZeroBottom : K.lookup f_xZeroBottom = some ⟨oc_xZeroBottom, od_xZeroBottom, .func (PySem.W.fnOf "__init__" "ZeroBottom.__init__" (defArgs s_xZeroBottom) (defBody s_xZeroBottom) (defScope s_xZeroBottom) .none kV_xZeroBottom dc_xZeroBottom pm_xZeroBottom an_xZeroBottom cd_xZeroBottom ct_xZeroBottom), sl_xZeroBottom⟩)
    (c_xZeroBottom : PySem.W.codeIn K cd_xZeroBottom "ZeroBottom.__init__" = true)
    (k_xZeroBottom : PySem.W.keepIn K (.ref f_xZeroBottom) = true)
    (xn_ZeroBottom_word : PySem.W.findIn K (.ref C_ZeroBottom) "word" = some none)
    (ic_LastrowsError : PySem.W.isClsIn K C_LastrowsError = true)
    (ti_LastrowsError : PySem.W.typeIn K (.ref C_LastrowsError) = some (.type "type"))
    (xu_ZeroBottom_LastrowsError : PySem.W.subIn K (.ref C_ZeroBottom) (.ref C_LastrowsError) = some true)
    (xu_ZeroBottom_ValueError : PySem.W.subIn K (.ref C_ZeroBottom) (.type "ValueError") = some true)
    (ic_Empty : PySem.W.isClsIn K C_Empty = true)
    (ti_Empty : PySem.W.typeIn K (.ref C_Empty) = some (.type "type"))
    (xu_ZeroBottom_Empty : PySem.W.subIn K (.ref C_ZeroBottom) (.ref C_Empty) = some false)
    (xq_ZeroBottom_Empty : (Value.ref C_ZeroBottom == Value.ref C_Empty) = false)
    (ic_BadText : PySem.W.isClsIn K C_BadText = true)
    (ti_BadText : PySem.W.typeIn K (.ref C_BadText) = some (.type "type"))
    (xu_ZeroBottom_BadText : PySem.W.subIn K (.ref C_ZeroBottom) (.ref C_BadText) = some false)
    (xq_ZeroBottom_BadText : (Value.ref C_ZeroBottom == Value.ref C_BadText) = false)
    (b_ValueError : PySem.W.nsIn K mainGlobals "ValueError" = some none)
    (b_abs : PySem.W.nsIn K mainGlobals "abs" = some none)
    (b_bool : PySem.W.nsIn K mainGlobals "bool" = some none)
    (b_int : PySem.W.nsIn K mainGlobals "int" = some none)
    (b_isinstance : PySem.W.nsIn K mainGlobals "isinstance" = some none)
    (b_len : PySem.W.nsIn K mainGlobals "len" = some none)
    (b_range : PySem.W.nsIn K mainGlobals "range" = some none)
    (m_gcd : PySem.W.nsIn K mainGlobals "gcd" = some (some (.builtin "math.gcd")))
    : ∃ fd : FuncData, (∀ (s : Shared) (v : Value), BindsTo s fd ⟨[v], []⟩ [("script", v)]) ∧ ∀ base : Heap, K.In base → base.Ns mainGlobals mg → FnOk l.prog w K mg base (L2.CX l.prog w) 8 fa fd ["script"] (spP K P_law0) := by
  have e : f_law = fa := Value.ref.inj (Option.some.inj ((PySem.W.mg_of X G a_law).symm.trans hfa))
  subst e
  have F_shared_part := funa_mk (st := s_shared_part) l_shared_part c_shared_part k_shared_part
  have B_shared_part := binds_a0 (ps := ["tops", "bottom"]) F_shared_part fun _ _ _ _ _ _ us hl => match us, hl with | [_, _], _ => rfl
  have F_Ratio_init := funa_mk1 (st := s_Ratio_init) (dvs := [V.int 1]) l_Ratio_init c_Ratio_init k_Ratio_init lT_Ratio_init dT_Ratio_init (by intro z; cases z) vT_Ratio_init
  have B_Ratio_init_0 := F_Ratio_init.binds1 (ps := ["self", "top", "bottom"]) 3 1 (by intro z; cases z) rfl fun T kV doc pm an cdv ct us its hu hi => match us, its, hu, hi with | [_, _, _], [_], _, _ => ⟨_, rfl, rfl⟩
  have B_Ratio_init : Binds K (PySem.W.fnOf "__init__" "Ratio.__init__" (defArgs s_Ratio_init) (defBody s_Ratio_init) (defScope s_Ratio_init) (.ref T_Ratio_init) kV_Ratio_init dc_Ratio_init pm_Ratio_init an_Ratio_init cd_Ratio_init ct_Ratio_init) ["self", "top", "bottom"] [] := by
    obtain ⟨ds, h1, h2⟩ := B_Ratio_init_0
    cases h1
    exact h2
  have B_Ratio_init_1 := F_Ratio_init.binds1 (ps := ["self", "top", "bottom"]) 2 0 (by intro z; cases z) rfl fun T kV doc pm an cdv ct us its hu hi => match us, its, hu, hi with | [_, _], [_], _, _ => ⟨_, rfl, rfl⟩
  have F_Ratio_sign := funa_mk (st := s_Ratio_sign) l_Ratio_sign c_Ratio_sign k_Ratio_sign
  have B_Ratio_sign := binds_a0 (ps := ["self"]) F_Ratio_sign fun _ _ _ _ _ _ us hl => match us, hl with | [_], _ => rfl
  have F_Ratio_is_zero := funa_mk (st := s_Ratio_is_zero) l_Ratio_is_zero c_Ratio_is_zero k_Ratio_is_zero
  have B_Ratio_is_zero := binds_a0 (ps := ["self"]) F_Ratio_is_zero fun _ _ _ _ _ _ us hl => match us, hl with | [_], _ => rfl
  have F_Ratio_add := funa_mk (st := s_Ratio_add) l_Ratio_add c_Ratio_add k_Ratio_add
  have B_Ratio_add := binds_a0 (ps := ["self", "other"]) F_Ratio_add fun _ _ _ _ _ _ us hl => match us, hl with | [_, _], _ => rfl
  have F_Ratio_sub := funa_mk (st := s_Ratio_sub) l_Ratio_sub c_Ratio_sub k_Ratio_sub
  have B_Ratio_sub := binds_a0 (ps := ["self", "other"]) F_Ratio_sub fun _ _ _ _ _ _ us hl => match us, hl with | [_, _], _ => rfl
  have F_Ratio_mul := funa_mk (st := s_Ratio_mul) l_Ratio_mul c_Ratio_mul k_Ratio_mul
  have B_Ratio_mul := binds_a0 (ps := ["self", "other"]) F_Ratio_mul fun _ _ _ _ _ _ us hl => match us, hl with | [_, _], _ => rfl
  have F_Ratio_neg := funa_mk (st := s_Ratio_neg) l_Ratio_neg c_Ratio_neg k_Ratio_neg
  have B_Ratio_neg := binds_a0 (ps := ["self"]) F_Ratio_neg fun _ _ _ _ _ _ us hl => match us, hl with | [_], _ => rfl
  have F_Ratio_abs := funa_mk (st := s_Ratio_abs) l_Ratio_abs c_Ratio_abs k_Ratio_abs
  have B_Ratio_abs := binds_a0 (ps := ["self"]) F_Ratio_abs fun _ _ _ _ _ _ us hl => match us, hl with | [_], _ => rfl
  have F_Ratio_eq := funa_mk (st := s_Ratio_eq) l_Ratio_eq c_Ratio_eq k_Ratio_eq
  have B_Ratio_eq := binds_a0 (ps := ["self", "other"]) F_Ratio_eq fun _ _ _ _ _ _ us hl => match us, hl with | [_, _], _ => rfl
  have F_Ratio_over := funa_mk (st := s_Ratio_over) l_Ratio_over c_Ratio_over k_Ratio_over
  have B_Ratio_over := binds_a0 (ps := ["self", "other"]) F_Ratio_over fun _ _ _ _ _ _ us hl => match us, hl with | [_, _], _ => rfl
  have F_Ratio_below := funa_mk (st := s_Ratio_below) l_Ratio_below c_Ratio_below k_Ratio_below
  have B_Ratio_below := binds_a0 (ps := ["self", "other"]) F_Ratio_below fun _ _ _ _ _ _ us hl => match us, hl with | [_, _], _ => rfl
  have F_law_cell := funa_mk (st := s_law_cell) l_law_cell c_law_cell k_law_cell
  have B_law_cell := binds_a0 (ps := ["script", "k"]) F_law_cell fun _ _ _ _ _ _ us hl => match us, hl with | [_, _], _ => rfl
  have F_law_mix := funa_mk (st := s_law_mix) l_law_mix c_law_mix k_law_mix
  have B_law_mix := binds_a0 (ps := ["cell", "k", "at"]) F_law_mix fun _ _ _ _ _ _ us hl => match us, hl with | [_, _, _], _ => rfl
  have F_law_draws := funa_mk (st := s_law_draws) l_law_draws c_law_draws k_law_draws
  have B_law_draws := binds_a0 (ps := ["script", "k", "many"]) F_law_draws fun _ _ _ _ _ _ us hl => match us, hl with | [_, _, _], _ => rfl
  have F_law_small := funa_mk (st := s_law_small) l_law_small c_law_small k_law_small
  have B_law_small := binds_a0 (ps := ["d"]) F_law_small fun _ _ _ _ _ _ us hl => match us, hl with | [_], _ => rfl
  have F_law_is_integer := funa_mk (st := s_law_is_integer) l_law_is_integer c_law_is_integer k_law_is_integer
  have B_law_is_integer := binds_a0 (ps := ["x"]) F_law_is_integer fun _ _ _ _ _ _ us hl => match us, hl with | [_], _ => rfl
  have F_law_gcd := funa_mk (st := s_law_gcd) l_law_gcd c_law_gcd k_law_gcd
  have B_law_gcd := binds_a0 (ps := ["a", "b"]) F_law_gcd fun _ _ _ _ _ _ us hl => match us, hl with | [_, _], _ => rfl
  have F_law_ratio := funa_mk (st := s_law_ratio) l_law_ratio c_law_ratio k_law_ratio
  have B_law_ratio := binds_a0 (ps := ["top", "bottom"]) F_law_ratio fun _ _ _ _ _ _ us hl => match us, hl with | [_, _], _ => rfl
  have F_law_numbers := funa_mk (st := s_law_numbers) l_law_numbers c_law_numbers k_law_numbers
  have B_law_numbers := binds_a0 (ps := ["script"]) F_law_numbers fun _ _ _ _ _ _ us hl => match us, hl with | [_], _ => rfl
  have F_law_is := funa_mk (st := s_law_is) l_law_is c_law_is k_law_is
  have B_law_is := binds_a0 (ps := ["x", "pair"]) F_law_is fun _ _ _ _ _ _ us hl => match us, hl with | [_, _], _ => rfl
  have F_law_truth := funa_mk (st := s_law_truth) l_law_truth c_law_truth k_law_truth
  have B_law_truth := binds_a0 (ps := ["x", "due"]) F_law_truth fun _ _ _ _ _ _ us hl => match us, hl with | [_, _], _ => rfl
  have F_law_dues := funa_mk (st := s_law_dues) l_law_dues c_law_dues k_law_dues
  have B_law_dues := binds_a0 (ps := ["p", "q"]) F_law_dues fun _ _ _ _ _ _ us hl => match us, hl with | [_, _], _ => rfl
  have F_law_results := funa_mk (st := s_law_results) l_law_results c_law_results k_law_results
  have B_law_results := binds_a0 (ps := ["a", "b", "p", "dues"]) F_law_results fun _ _ _ _ _ _ us hl => match us, hl with | [_, _, _, _], _ => rfl
  have F_law_quotient := funa_mk (st := s_law_quotient) l_law_quotient c_law_quotient k_law_quotient
  have B_law_quotient := binds_a0 (ps := ["a", "b", "p", "q"]) F_law_quotient fun _ _ _ _ _ _ us hl => match us, hl with | [_, _, _, _], _ => rfl
  have F_law_order := funa_mk (st := s_law_order) l_law_order c_law_order k_law_order
  have B_law_order := binds_a0 (ps := ["a", "b", "p", "q"]) F_law_order fun _ _ _ _ _ _ us hl => match us, hl with | [_, _, _, _], _ => rfl
  have F_law_zero_bottom := funa_mk (st := s_law_zero_bottom) l_law_zero_bottom c_law_zero_bottom k_law_zero_bottom
  have B_law_zero_bottom := binds_a0 (ps := ["top"]) F_law_zero_bottom fun _ _ _ _ _ _ us hl => match us, hl with | [_], _ => rfl
  have F_law := funa_mk (st := s_law) l_law c_law k_law
  have B_law := binds_a0 (ps := ["script"]) F_law fun _ _ _ _ _ _ us hl => match us, hl with | [_], _ => rfl
  have F_xZeroBottom := funa_mk (st := s_xZeroBottom) l_xZeroBottom c_xZeroBottom k_xZeroBottom
  have B_xZeroBottom := binds_a0 (ps := ["self"]) F_xZeroBottom fun _ _ _ _ _ _ us hl => match us, hl with | [_], _ => rfl
  let a : Ad := { C_Ratio := C_Ratio, C_ZeroBottom := C_ZeroBottom, C_LastrowsError := C_LastrowsError, C_Empty := C_Empty, C_BadText := C_BadText, f_shared_part := f_shared_part, f_Ratio_init := f_Ratio_init, f_Ratio_sign := f_Ratio_sign, f_Ratio_is_zero := f_Ratio_is_zero, f_Ratio_add := f_Ratio_add, f_Ratio_sub := f_Ratio_sub, f_Ratio_mul := f_Ratio_mul, f_Ratio_neg := f_Ratio_neg, f_Ratio_abs := f_Ratio_abs, f_Ratio_eq := f_Ratio_eq, f_Ratio_over := f_Ratio_over, f_Ratio_below := f_Ratio_below, f_law_cell := f_law_cell, f_law_mix := f_law_mix, f_law_draws := f_law_draws, f_law_small := f_law_small, f_law_is_integer := f_law_is_integer, f_law_gcd := f_law_gcd, f_law_ratio := f_law_ratio, f_law_numbers := f_law_numbers, f_law_is := f_law_is, f_law_truth := f_law_truth, f_law_dues := f_law_dues, f_law_results := f_law_results, f_law_quotient := f_law_quotient, f_law_order := f_law_order, f_law_zero_bottom := f_law_zero_bottom, f_law := f_law, f_xZeroBottom := f_xZeroBottom }
  have T : Txt K mg a := { mg_Ratio := (PySem.W.mg_of X G a_Ratio), cl_Ratio := (⟨pg_Ratio, hd_Ratio, po_Ratio, sa_Ratio⟩), is_Ratio := (⟨⟨pg_Ratio, hd_Ratio, po_Ratio, sa_Ratio⟩, kc_Ratio, og, ot, mo_Ratio⟩), kc_Ratio := (kitc_of ic_Ratio ti_Ratio su_Ratio_int su_Ratio_bool su_Ratio_str su_Ratio_NoneType su_Ratio_list su_Ratio_tuple), nf_Ratio := (⟨no_Ratio_int, no_Ratio_bool, no_Ratio_str, no_Ratio_NoneType, no_Ratio_list, no_Ratio_tuple⟩), sf_Ratio := (sf_Ratio), ne_Ratio := (ne_Ratio), mk_Ratio := (⟨mk_Ratio, a_Ratio_init, i_Ratio_init, kp_Ratio⟩), na_Ratio_top := (na_Ratio_top), na_Ratio_bottom := (na_Ratio_bottom), mg_shared_part := (PySem.W.mg_of X G a_shared_part), pr_Ratio_sign := (⟨p_Ratio_sign, a_Ratio_sign, g_Ratio_sign, t_Ratio_sign, r_Ratio_sign, e_Ratio_sign⟩), pr_Ratio_is_zero := (⟨p_Ratio_is_zero, a_Ratio_is_zero, g_Ratio_is_zero, t_Ratio_is_zero, r_Ratio_is_zero, e_Ratio_is_zero⟩), me_Ratio_add := (⟨a_Ratio_add, i_Ratio_add, k_Ratio_add⟩), fi_Ratio_add := (a_Ratio_add), isf_Ratio_add := (i_Ratio_add), me_Ratio_sub := (⟨a_Ratio_sub, i_Ratio_sub, k_Ratio_sub⟩), fi_Ratio_sub := (a_Ratio_sub), isf_Ratio_sub := (i_Ratio_sub), me_Ratio_mul := (⟨a_Ratio_mul, i_Ratio_mul, k_Ratio_mul⟩), fi_Ratio_mul := (a_Ratio_mul), isf_Ratio_mul := (i_Ratio_mul), me_Ratio_neg := (⟨a_Ratio_neg, i_Ratio_neg, k_Ratio_neg⟩), fi_Ratio_neg := (a_Ratio_neg), isf_Ratio_neg := (i_Ratio_neg), me_Ratio_abs := (⟨a_Ratio_abs, i_Ratio_abs, k_Ratio_abs⟩), fi_Ratio_abs := (a_Ratio_abs), isf_Ratio_abs := (i_Ratio_abs), me_Ratio_eq := (⟨a_Ratio_eq, i_Ratio_eq, k_Ratio_eq⟩), fi_Ratio_eq := (a_Ratio_eq), isf_Ratio_eq := (i_Ratio_eq), me_Ratio_over := (⟨a_Ratio_over, i_Ratio_over, k_Ratio_over⟩), fi_Ratio_over := (a_Ratio_over), isf_Ratio_over := (i_Ratio_over), me_Ratio_below := (⟨a_Ratio_below, i_Ratio_below, k_Ratio_below⟩), fi_Ratio_below := (a_Ratio_below), isf_Ratio_below := (i_Ratio_below), mg_law_cell := (PySem.W.mg_of X G a_law_cell), mg_law_mix := (PySem.W.mg_of X G a_law_mix), mg_law_draws := (PySem.W.mg_of X G a_law_draws), mg_law_small := (PySem.W.mg_of X G a_law_small), mg_law_is_integer := (PySem.W.mg_of X G a_law_is_integer), mg_law_gcd := (PySem.W.mg_of X G a_law_gcd), mg_law_ratio := (PySem.W.mg_of X G a_law_ratio), mg_law_numbers := (PySem.W.mg_of X G a_law_numbers), mg_law_is := (PySem.W.mg_of X G a_law_is), mg_law_truth := (PySem.W.mg_of X G a_law_truth), mg_law_dues := (PySem.W.mg_of X G a_law_dues), mg_law_results := (PySem.W.mg_of X G a_law_results), mg_law_quotient := (PySem.W.mg_of X G a_law_quotient), mg_law_order := (PySem.W.mg_of X G a_law_order), mg_law_zero_bottom := (PySem.W.mg_of X G a_law_zero_bottom), mg_law := (PySem.W.mg_of X G a_law), mg_ZeroBottom := (PySem.W.mg_of X G a_ZeroBottom), ox_ZeroBottom := (⟨⟨_, _, _, _, _, _, _, _, _, _, _, _, _, _, _, xL_ZeroBottom, rv_ZeroBottom⟩, xsa_ZeroBottom, xb_ZeroBottom, ti_ZeroBottom, xk_ZeroBottom⟩), xi_ZeroBottom := (a_xZeroBottom), xt_ZeroBottom := (t_xZeroBottom), xf_ZeroBottom := (⟨xg_ZeroBottom, xh_ZeroBottom, xb_ZeroBottom, xd_ZeroBottom⟩), xc_ZeroBottom := (⟨xg_ZeroBottom, xh_ZeroBottom, xb_ZeroBottom, xd_ZeroBottom, xcl_ZeroBottom, og, ot, xmo_ZeroBottom⟩), xe_ZeroBottom := (exm_ref xb_ZeroBottom ic_ZeroBottom ti_ZeroBottom xs_ZeroBottom), na_ZeroBottom_word := (xn_ZeroBottom_word), xk_ZeroBottom_LastrowsError := (kit_ref ic_LastrowsError ti_LastrowsError xu_ZeroBottom_LastrowsError (.inl rfl)), xk_ZeroBottom_ValueError := (kit_typ xu_ZeroBottom_ValueError), xk_ZeroBottom_Empty := (kit_ref ic_Empty ti_Empty xu_ZeroBottom_Empty (.inr xq_ZeroBottom_Empty)), xk_ZeroBottom_BadText := (kit_ref ic_BadText ti_BadText xu_ZeroBottom_BadText (.inr xq_ZeroBottom_BadText)), mg_LastrowsError := (PySem.W.mg_of X G a_LastrowsError), mg_Empty := (PySem.W.mg_of X G a_Empty), mg_BadText := (PySem.W.mg_of X G a_BadText), b_ValueError := (PySem.W.mg_none_of X G b_ValueError), b_abs := (PySem.W.mg_none_of X G b_abs), b_bool := (PySem.W.mg_none_of X G b_bool), b_int := (PySem.W.mg_none_of X G b_int), b_isinstance := (PySem.W.mg_none_of X G b_isinstance), b_len := (PySem.W.mg_none_of X G b_len), b_range := (PySem.W.mg_none_of X G b_range), m_gcd := (PySem.W.mg_of X G m_gcd) }
  have S : Fs K a _ := { F_shared_part := F_shared_part, B_shared_part := B_shared_part, F_Ratio_init := F_Ratio_init, B_Ratio_init := B_Ratio_init, B_Ratio_init_1 := B_Ratio_init_1, F_Ratio_sign := F_Ratio_sign, B_Ratio_sign := B_Ratio_sign, F_Ratio_is_zero := F_Ratio_is_zero, B_Ratio_is_zero := B_Ratio_is_zero, F_Ratio_add := F_Ratio_add, B_Ratio_add := B_Ratio_add, F_Ratio_sub := F_Ratio_sub, B_Ratio_sub := B_Ratio_sub, F_Ratio_mul := F_Ratio_mul, B_Ratio_mul := B_Ratio_mul, F_Ratio_neg := F_Ratio_neg, B_Ratio_neg := B_Ratio_neg, F_Ratio_abs := F_Ratio_abs, B_Ratio_abs := B_Ratio_abs, F_Ratio_eq := F_Ratio_eq, B_Ratio_eq := B_Ratio_eq, F_Ratio_over := F_Ratio_over, B_Ratio_over := B_Ratio_over, F_Ratio_below := F_Ratio_below, B_Ratio_below := B_Ratio_below, F_law_cell := F_law_cell, B_law_cell := B_law_cell, F_law_mix := F_law_mix, B_law_mix := B_law_mix, F_law_draws := F_law_draws, B_law_draws := B_law_draws, F_law_small := F_law_small, B_law_small := B_law_small, F_law_is_integer := F_law_is_integer, B_law_is_integer := B_law_is_integer, F_law_gcd := F_law_gcd, B_law_gcd := B_law_gcd, F_law_ratio := F_law_ratio, B_law_ratio := B_law_ratio, F_law_numbers := F_law_numbers, B_law_numbers := B_law_numbers, F_law_is := F_law_is, B_law_is := B_law_is, F_law_truth := F_law_truth, B_law_truth := B_law_truth, F_law_dues := F_law_dues, B_law_dues := B_law_dues, F_law_results := F_law_results, B_law_results := B_law_results, F_law_quotient := F_law_quotient, B_law_quotient := B_law_quotient, F_law_order := F_law_order, B_law_order := B_law_order, F_law_zero_bottom := F_law_zero_bottom, B_law_zero_bottom := B_law_zero_bottom, F_law := F_law, B_law := B_law, XF_ZeroBottom := F_xZeroBottom, XB_ZeroBottom := B_xZeroBottom : Fs K a { d_shared_part := _, d_Ratio_init := _, d_Ratio_sign := _, d_Ratio_is_zero := _, d_Ratio_add := _, d_Ratio_sub := _, d_Ratio_mul := _, d_Ratio_neg := _, d_Ratio_abs := _, d_Ratio_eq := _, d_Ratio_over := _, d_Ratio_below := _, d_law_cell := _, d_law_mix := _, d_law_draws := _, d_law_small := _, d_law_is_integer := _, d_law_gcd := _, d_law_ratio := _, d_law_numbers := _, d_law_is := _, d_law_truth := _, d_law_dues := _, d_law_results := _, d_law_quotient := _, d_law_order := _, d_law_zero_bottom := _, d_law := _, d_xZeroBottom := _ } }
  exact ⟨_, fun s v => F_law.bindsA (ps := ["script"]) (fun _ _ _ _ _ _ us hl => match us, hl with | [_], _ => rfl) s [v] rfl, fun base _ _ => ok_law T S⟩
theorem walk {l : PySem.W.OpenLaw} {q : Program} {loose : List Str} {XP : (Str → Option Value) → Heap → Prop} {YP : World → Heap → Prop} {d : DefRec} {K : Params → PySem.W.Frag} (hn : l.most = some 63) (hdf : d.params.defaults = [])
    (hY : ∀ (w : World) (h : Heap), YP w h → (K w.params).In h)
    (F : ∀ (w : World) (mg : Str → Option Value) (fa : Addr) (h : Heap), (K w.params).In h → h.Ns mainGlobals mg → mg d.name = some (.ref fa) →
      ∃ fd : FuncData, (∀ (s : Shared) (u : Value), BindsTo s fd ⟨[u], []⟩ [("script", u)]) ∧ ∀ base : Heap, (K w.params).In base → base.Ns mainGlobals mg → FnOk l.prog w (K w.params) mg base (L2.CX l.prog w) 8 fa fd ["script"] (spP (K w.params) P_law0)) :
    PySem.W.WalkO q loose XP YP l.row.toRowW d [] (fun f vs => PySem.call f vs) :=
  L2.walk_of (n := 63) (k := 8) (x := "script") (CX := fun w => L2.CX l.prog w) (sp := fun w => spP (K w.params) P_law0) hn (by decide) hdf ⟨rfl, by decide, by decide⟩ hY F (fun _ _ _ ns hl _ hS => q_sp hS (law0 ns hl)) fun _ _ _ _ _ ⟨_, _, _, _, _, _, _, _, _, _, _, _, z⟩ => z
end L_k00
open PySem PySem.W PyProof.Rows
set_option maxRecDepth 100000 in
set_option maxHeartbeats 0 in
theorem PySem.Challenge.cw_lastrows_k00_ratio_lowest_holds : PySem.Challenge.rw_lastrows_k00_ratio_lowest.Holds := by
  w_on; o_law; k_head; (case hw => w_witness2)
  k_fill
  refine L_k00.walk (l := PySem.Challenge.rw_lastrows_k00_ratio_lowest) rfl rfl (fun w h Y => PySem.W.kIn_of Y) ?F
  case F =>
    intro w mg fa h KX G hmg
    refine' L_k00.all_mk KX G hmg ?a_Ratio ?a_ZeroBottom ?a_LastrowsError ?a_Empty ?a_BadText ?og ?ot ?pg_Ratio ?hd_Ratio ?po_Ratio ?sa_Ratio ?kc_Ratio ?mo_Ratio ?ic_Ratio ?ti_Ratio ?sf_Ratio ?ne_Ratio ?mk_Ratio ?kp_Ratio ?su_Ratio_int ?no_Ratio_int ?su_Ratio_bool ?no_Ratio_bool ?su_Ratio_str ?no_Ratio_str ?su_Ratio_NoneType ?no_Ratio_NoneType ?su_Ratio_list ?no_Ratio_list ?su_Ratio_tuple ?no_Ratio_tuple ?na_Ratio_top ?na_Ratio_bottom ?a_shared_part ?l_shared_part ?c_shared_part ?k_shared_part ?a_Ratio_init ?i_Ratio_init ?l_Ratio_init ?c_Ratio_init ?k_Ratio_init ?lT_Ratio_init ?dT_Ratio_init ?vT_Ratio_init ?a_Ratio_sign ?g_Ratio_sign ?t_Ratio_sign ?e_Ratio_sign ?l_Ratio_sign ?c_Ratio_sign ?k_Ratio_sign ?a_Ratio_is_zero ?g_Ratio_is_zero ?t_Ratio_is_zero ?e_Ratio_is_zero ?l_Ratio_is_zero ?c_Ratio_is_zero ?k_Ratio_is_zero ?a_Ratio_add ?i_Ratio_add ?l_Ratio_add ?c_Ratio_add ?k_Ratio_add ?a_Ratio_sub ?i_Ratio_sub ?l_Ratio_sub ?c_Ratio_sub ?k_Ratio_sub ?a_Ratio_mul ?i_Ratio_mul ?l_Ratio_mul ?c_Ratio_mul ?k_Ratio_mul ?a_Ratio_neg ?i_Ratio_neg ?l_Ratio_neg ?c_Ratio_neg ?k_Ratio_neg ?a_Ratio_abs ?i_Ratio_abs ?l_Ratio_abs ?c_Ratio_abs ?k_Ratio_abs ?a_Ratio_eq ?i_Ratio_eq ?l_Ratio_eq ?c_Ratio_eq ?k_Ratio_eq ?a_Ratio_over ?i_Ratio_over ?l_Ratio_over ?c_Ratio_over ?k_Ratio_over ?a_Ratio_below ?i_Ratio_below ?l_Ratio_below ?c_Ratio_below ?k_Ratio_below ?a_law_cell ?l_law_cell ?c_law_cell ?k_law_cell ?a_law_mix ?l_law_mix ?c_law_mix ?k_law_mix ?a_law_draws ?l_law_draws ?c_law_draws ?k_law_draws ?a_law_small ?l_law_small ?c_law_small ?k_law_small ?a_law_is_integer ?l_law_is_integer ?c_law_is_integer ?k_law_is_integer ?a_law_gcd ?l_law_gcd ?c_law_gcd ?k_law_gcd ?a_law_ratio ?l_law_ratio ?c_law_ratio ?k_law_ratio ?a_law_numbers ?l_law_numbers ?c_law_numbers ?k_law_numbers ?a_law_is ?l_law_is ?c_law_is ?k_law_is ?a_law_truth ?l_law_truth ?c_law_truth ?k_law_truth ?a_law_dues ?l_law_dues ?c_law_dues ?k_law_dues ?a_law_results ?l_law_results ?c_law_results ?k_law_results ?a_law_quotient ?l_law_quotient ?c_law_quotient ?k_law_quotient ?a_law_order ?l_law_order ?c_law_order ?k_law_order ?a_law_zero_bottom ?l_law_zero_bottom ?c_law_zero_bottom ?k_law_zero_bottom ?a_law ?l_law ?c_law ?k_law ?xL_ZeroBottom ?rv_ZeroBottom ?ic_ZeroBottom ?ti_ZeroBottom ?xsa_ZeroBottom ?xb_ZeroBottom ?xk_ZeroBottom ?xg_ZeroBottom ?xh_ZeroBottom ?xd_ZeroBottom ?xcl_ZeroBottom ?xmo_ZeroBottom ?xs_ZeroBottom ?a_xZeroBottom ?t_xZeroBottom ?l_xZeroBottom ?c_xZeroBottom ?k_xZeroBottom ?xn_ZeroBottom_word ?ic_LastrowsError ?ti_LastrowsError ?xu_ZeroBottom_LastrowsError ?xu_ZeroBottom_ValueError ?ic_Empty ?ti_Empty ?xu_ZeroBottom_Empty ?xq_ZeroBottom_Empty ?ic_BadText ?ti_BadText ?xu_ZeroBottom_BadText ?xq_ZeroBottom_BadText ?b_ValueError ?b_abs ?b_bool ?b_int ?b_isinstance ?b_len ?b_range ?m_gcd
    (case a_Ratio => k_is)
    (case a_ZeroBottom => k_is)
    (case a_LastrowsError => k_is)
    (case a_Empty => k_is)
    (case a_BadText => k_is)
    (case og => k_is)
    (case ot => k_is)
    (case pg_Ratio => k_is)
    (case hd_Ratio => k_is)
    (case po_Ratio => k_is)
    (case sa_Ratio => k_is)
    (case kc_Ratio => k_is)
    (case mo_Ratio => k_is)
    (case ic_Ratio => k_is)
    (case ti_Ratio => k_is)
    (case sf_Ratio => k_is)
    (case ne_Ratio => k_is)
    (case mk_Ratio => k_is)
    (case kp_Ratio => k_is)
    (case su_Ratio_int => k_is)
    (case no_Ratio_int => k_is)
    (case su_Ratio_bool => k_is)
    (case no_Ratio_bool => k_is)
    (case su_Ratio_str => k_is)
    (case no_Ratio_str => k_is)
    (case su_Ratio_NoneType => k_is)
    (case no_Ratio_NoneType => k_is)
    (case su_Ratio_list => k_is)
    (case no_Ratio_list => k_is)
    (case su_Ratio_tuple => k_is)
    (case no_Ratio_tuple => k_is)
    (case na_Ratio_top => k_is)
    (case na_Ratio_bottom => k_is)
    (case a_shared_part => k_is)
    (case l_shared_part => k_is)
    (case c_shared_part => k_is)
    (case k_shared_part => k_is)
    (case a_Ratio_init => k_is)
    (case i_Ratio_init => k_is)
    (case l_Ratio_init => k_is)
    (case c_Ratio_init => k_is)
    (case k_Ratio_init => k_is)
    (case lT_Ratio_init => k_is)
    (case dT_Ratio_init => exact rfl)
    (case vT_Ratio_init => exact .cons ⟨_, rfl⟩ .nil)
    (case a_Ratio_sign => k_is)
    (case g_Ratio_sign => k_is)
    (case t_Ratio_sign => k_is)
    (case e_Ratio_sign => k_is)
    (case l_Ratio_sign => k_is)
    (case c_Ratio_sign => k_is)
    (case k_Ratio_sign => k_is)
    (case a_Ratio_is_zero => k_is)
    (case g_Ratio_is_zero => k_is)
    (case t_Ratio_is_zero => k_is)
    (case e_Ratio_is_zero => k_is)
    (case l_Ratio_is_zero => k_is)
    (case c_Ratio_is_zero => k_is)
    (case k_Ratio_is_zero => k_is)
    (case a_Ratio_add => k_is)
    (case i_Ratio_add => k_is)
    (case l_Ratio_add => k_is)
    (case c_Ratio_add => k_is)
    (case k_Ratio_add => k_is)
    (case a_Ratio_sub => k_is)
    (case i_Ratio_sub => k_is)
    (case l_Ratio_sub => k_is)
    (case c_Ratio_sub => k_is)
    (case k_Ratio_sub => k_is)
    (case a_Ratio_mul => k_is)
    (case i_Ratio_mul => k_is)
    (case l_Ratio_mul => k_is)
    (case c_Ratio_mul => k_is)
    (case k_Ratio_mul => k_is)
    (case a_Ratio_neg => k_is)
    (case i_Ratio_neg => k_is)
    (case l_Ratio_neg => k_is)
    (case c_Ratio_neg => k_is)
    (case k_Ratio_neg => k_is)
    (case a_Ratio_abs => k_is)
    (case i_Ratio_abs => k_is)
    (case l_Ratio_abs => k_is)
    (case c_Ratio_abs => k_is)
    (case k_Ratio_abs => k_is)
    (case a_Ratio_eq => k_is)
    (case i_Ratio_eq => k_is)
    (case l_Ratio_eq => k_is)
    (case c_Ratio_eq => k_is)
    (case k_Ratio_eq => k_is)
    (case a_Ratio_over => k_is)
    (case i_Ratio_over => k_is)
    (case l_Ratio_over => k_is)
    (case c_Ratio_over => k_is)
    (case k_Ratio_over => k_is)
    (case a_Ratio_below => k_is)
    (case i_Ratio_below => k_is)
    (case l_Ratio_below => k_is)
    (case c_Ratio_below => k_is)
    (case k_Ratio_below => k_is)
    (case a_law_cell => k_is)
    (case l_law_cell => k_is)
    (case c_law_cell => k_is)
    (case k_law_cell => k_is)
    (case a_law_mix => k_is)
    (case l_law_mix => k_is)
    (case c_law_mix => k_is)
    (case k_law_mix => k_is)
    (case a_law_draws => k_is)
    (case l_law_draws => k_is)
    (case c_law_draws => k_is)
    (case k_law_draws => k_is)
    (case a_law_small => k_is)
    (case l_law_small => k_is)
    (case c_law_small => k_is)
    (case k_law_small => k_is)
    (case a_law_is_integer => k_is)
    (case l_law_is_integer => k_is)
    (case c_law_is_integer => k_is)
    (case k_law_is_integer => k_is)
    (case a_law_gcd => k_is)
    (case l_law_gcd => k_is)
    (case c_law_gcd => k_is)
    (case k_law_gcd => k_is)
    (case a_law_ratio => k_is)
    (case l_law_ratio => k_is)
    (case c_law_ratio => k_is)
    (case k_law_ratio => k_is)
    (case a_law_numbers => k_is)
    (case l_law_numbers => k_is)
    (case c_law_numbers => k_is)
    (case k_law_numbers => k_is)
    (case a_law_is => k_is)
    (case l_law_is => k_is)
    (case c_law_is => k_is)
    (case k_law_is => k_is)
    (case a_law_truth => k_is)
    (case l_law_truth => k_is)
    (case c_law_truth => k_is)
    (case k_law_truth => k_is)
    (case a_law_dues => k_is)
    (case l_law_dues => k_is)
    (case c_law_dues => k_is)
    (case k_law_dues => k_is)
    (case a_law_results => k_is)
    (case l_law_results => k_is)
    (case c_law_results => k_is)
    (case k_law_results => k_is)
    (case a_law_quotient => k_is)
    (case l_law_quotient => k_is)
    (case c_law_quotient => k_is)
    (case k_law_quotient => k_is)
    (case a_law_order => k_is)
    (case l_law_order => k_is)
    (case c_law_order => k_is)
    (case k_law_order => k_is)
    (case a_law_zero_bottom => k_is)
    (case l_law_zero_bottom => k_is)
    (case c_law_zero_bottom => k_is)
    (case k_law_zero_bottom => k_is)
    (case a_law => k_is)
    (case l_law => k_is)
    (case c_law => k_is)
    (case k_law => k_is)
    (case xL_ZeroBottom => k_is)
    (case rv_ZeroBottom => decide +kernel)
    (case ic_ZeroBottom => k_is)
    (case ti_ZeroBottom => k_is)
    (case xsa_ZeroBottom => k_is)
    (case xb_ZeroBottom => k_is)
    (case xk_ZeroBottom => k_is)
    (case xg_ZeroBottom => k_is)
    (case xh_ZeroBottom => k_is)
    (case xd_ZeroBottom => k_is)
    (case xcl_ZeroBottom => k_is)
    (case xmo_ZeroBottom => k_is)
    (case xs_ZeroBottom => k_is)
    (case a_xZeroBottom => k_is)
    (case t_xZeroBottom => k_is)
    (case l_xZeroBottom => k_is)
    (case c_xZeroBottom => k_is)
    (case k_xZeroBottom => k_is)
    (case xn_ZeroBottom_word => k_is)
    (case ic_LastrowsError => k_is)
    (case ti_LastrowsError => k_is)
    (case xu_ZeroBottom_LastrowsError => k_is)
    (case xu_ZeroBottom_ValueError => k_is)
    (case ic_Empty => k_is)
    (case ti_Empty => k_is)
    (case xu_ZeroBottom_Empty => k_is)
    (case xq_ZeroBottom_Empty => decide)
    (case ic_BadText => k_is)
    (case ti_BadText => k_is)
    (case xu_ZeroBottom_BadText => k_is)
    (case xq_ZeroBottom_BadText => decide)
    (case b_ValueError => k_is)
    (case b_abs => k_is)
    (case b_bool => k_is)
    (case b_int => k_is)
    (case b_isinstance => k_is)
    (case b_len => k_is)
    (case b_range => k_is)
    (case m_gcd => k_is)
#print axioms PySem.Challenge.cw_lastrows_k00_ratio_lowest_holds


