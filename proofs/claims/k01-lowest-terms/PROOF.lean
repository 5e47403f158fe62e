import PyProof.Rows.All
import Wide.All
import OpenK.AllK
import Wide.FinOn
import HandS.ForMost
import HandS.ForExc
import HandS.Wide
import HandS.CallSlots
import HandS.Property
import HandS.Defaults
import HandS.IsInst
import HandS.SortInts
import HandS.Comp
import HandS.HeadHook1
import HandS.HeadHook2
import HandS.HeadEnd
import HandS.Head0
import HandS.Head1
import HandS.Head2
import HandS.EndBits
import PySem.Challenge.RW_yesorwait_k01_lowest_terms
set_option Elab.async false
set_option linter.all false
set_option maxRecDepth 100000
set_option maxHeartbeats 4000000
set_option autoImplicit false
/-! Y1: pure values, their representation in the abstract heap, slots, states. -/
namespace Y
open PySem PySem.Spec L2

/-- the classes of the package -/
inductive Cid where
  | SaleError | InvalidAmount | InvalidUrn | InvalidRule | InvalidFact | InvalidShare | NotFit | TooMany | InvalidOffer | SaleOver | NothingToUndo | InvalidText | InvalidCommand | NotReady
  | Amount | Urn | Rule | Threshold | Falling | After | Balance | Fact | Sale | Console | Other
  deriving DecidableEq

/-- a value without addresses -/
inductive PV where
  | non | bl (b : Bool) | int (i : Int) | str (x : Str) | ty (n : String) | cls (c : Cid)
  | tup (xs : List PV) | lst (xs : List PV) | dct (ks : List Key) (xs : List PV) | obj (c : Cid) (xs : List PV) | exn (c : Cid)

/-- the attributes in the order in which __init__ stores them -/
def flds : Cid → List Str
  | .Amount => ["above", "below"]
  | .Urn => ["rows", "weights", "whole"]
  | .Threshold => ["own_limit"]
  | .Falling => ["own_limits"]
  | .After => ["own_wait"]
  | .Balance => ["own_limit", "own_frees", "own_excesses", "own_none", "own_most"]
  | .Fact => ["points", "least", "most"]
  | .Sale => ["line", "policy", "came", "choice"]
  | .Console => ["urn_list", "plan", "live"]
  | _ => []

/-- where things stand: the written part, the classes -/
structure Sg where
  K : PySem.W.Frag
  ca : Cid → Addr

mutual
/-- v is x, by the frozen heap F -/
def Rep (S : Sg) (F : Hp) : PV → V → Prop
  | .non, v => v = .non
  | .bl b, v => v = .bl b
  | .int i, v => v = .int i
  | .str x, v => v = .str x
  | .ty n, v => v = .ty n
  | .cls c, v => v = .ref (S.ca c)
  | .tup xs, v => ∃ a vs, v = .ref a ∧ SqT S.K F a vs ∧ Reps S F xs vs
  | .lst xs, v => ∃ a vs, v = .ref a ∧ SqL S.K F a vs ∧ Reps S F xs vs
  | .dct ks xs, v => ∃ a od vs, v = .ref a ∧ F a = some (.frz od (.dK (ks.zip vs))) ∧ ks.length = vs.length ∧ Reps S F xs vs
  | .obj c xs, v => ∃ a dx vs, v = .ref a ∧ F a = some (.ins (S.ca c) dx ((flds c).zip vs)) ∧ vs.length ≤ (flds c).length ∧ Reps S F xs vs
  | .exn _, _ => False
def Reps (S : Sg) (F : Hp) : List PV → List V → Prop
  | [], vs => vs = []
  | x :: xs, vs => ∃ v r, vs = v :: r ∧ Rep S F x v ∧ Reps S F xs r
end

theorem SqT.same {K : PySem.W.Frag} {H H' : Hp} {a : Addr} {xs : List V} (e : Same H H') (h : SqT K H a xs) : SqT K H' a xs := by
  rcases h with (h | ⟨o, h⟩) | h
  · exact .inl (.inl (e _ _ h))
  · exact .inl (.inr ⟨o, e _ _ h⟩)
  · exact .inr h

theorem Rd.same {H H' : Hp} {a : Addr} {u : HO} (e : Same H H') (h : Rd H a u) : Rd H' a u := by
  rcases h with h | ⟨o, h⟩
  · exact .inl (e _ _ h)
  · exact .inr ⟨o, e _ _ h⟩
theorem SqL.same {K : PySem.W.Frag} {H H' : Hp} {a : Addr} {xs : List V} (e : Same H H') (h : SqL K H a xs) : SqL K H' a xs := by
  rcases h with h | h
  · exact .inl (Rd.same e h)
  · exact .inr h

mutual
theorem Rep.mono {S : Sg} {F F' : Hp} (e : Same F F') : ∀ (x : PV) (v : V), Rep S F x v → Rep S F' x v
  | .non, v, h => h
  | .bl b, v, h => h
  | .int i, v, h => h
  | .str x, v, h => h
  | .ty n, v, h => h
  | .cls c, v, h => h
  | .tup xs, v, h => by
    obtain ⟨a, vs, h1, h2, h3⟩ := h
    exact ⟨a, vs, h1, SqT.same e h2, Reps.mono e xs vs h3⟩
  | .lst xs, v, h => by
    obtain ⟨a, vs, h1, h2, h3⟩ := h
    exact ⟨a, vs, h1, SqL.same e h2, Reps.mono e xs vs h3⟩
  | .dct ks xs, v, h => by
    obtain ⟨a, od, vs, h1, h2, h3, h4⟩ := h
    exact ⟨a, od, vs, h1, e _ _ h2, h3, Reps.mono e xs vs h4⟩
  | .obj c xs, v, h => by
    obtain ⟨a, dx, vs, h1, h2, h3, h4⟩ := h
    exact ⟨a, dx, vs, h1, e _ _ h2, h3, Reps.mono e xs vs h4⟩
  | .exn c, v, h => h
theorem Reps.mono {S : Sg} {F F' : Hp} (e : Same F F') : ∀ (xs : List PV) (vs : List V), Reps S F xs vs → Reps S F' xs vs
  | [], vs, h => h
  | x :: xs, vs, h => by
    obtain ⟨v, r, h1, h2, h3⟩ := h
    exact ⟨v, r, h1, Rep.mono e x v h2, Reps.mono e xs r h3⟩
end

section
variable {S : Sg} {F F' H : Hp}
theorem Reps.nil : Reps S F [] [] := rfl
theorem Reps.cons {x : PV} {v : V} {xs : List PV} {vs : List V} (h : Rep S F x v) (t : Reps S F xs vs) : Reps S F (x :: xs) (v :: vs) := ⟨v, vs, rfl, h, t⟩
theorem Reps.length : ∀ {xs : List PV} {vs : List V}, Reps S F xs vs → xs.length = vs.length
  | [], vs, h => by
    have h : vs = [] := h
    subst h
    rfl
  | x :: xs, vs, h => by
    obtain ⟨v, r, rfl, _, h3⟩ := h
    have := Reps.length h3
    simp [this]
theorem Reps.get : ∀ {xs : List PV} {vs : List V} {i : Nat} {x : PV}, Reps S F xs vs → xs[i]? = some x → ∃ v, vs[i]? = some v ∧ Rep S F x v
  | [], _, _, _, _, e => by simp at e
  | y :: ys, vs, 0, x, h, e => by
    obtain ⟨v, r, rfl, h2, _⟩ := h
    simp at e
    subst e
    exact ⟨v, rfl, h2⟩
  | y :: ys, vs, i + 1, x, h, e => by
    obtain ⟨v, r, rfl, _, h3⟩ := h
    simp at e
    obtain ⟨w, e2, h4⟩ := Reps.get h3 e
    exact ⟨w, by simpa using e2, h4⟩
theorem Reps.getV : ∀ {xs : List PV} {vs : List V} {i : Nat} {v : V}, Reps S F xs vs → vs[i]? = some v → ∃ x, xs[i]? = some x ∧ Rep S F x v
  | [], vs, i, v, h, e => by
    have h : vs = [] := h
    subst h
    simp at e
  | y :: ys, vs, 0, v, h, e => by
    obtain ⟨w, r, rfl, h2, _⟩ := h
    simp at e
    subst e
    exact ⟨y, rfl, h2⟩
  | y :: ys, vs, i + 1, v, h, e => by
    obtain ⟨w, r, rfl, _, h3⟩ := h
    simp at e
    obtain ⟨x, e2, h4⟩ := Reps.getV h3 e
    exact ⟨x, by simpa using e2, h4⟩
theorem Reps.append : ∀ {xs ys : List PV} {vs ws : List V}, Reps S F xs vs → Reps S F ys ws → Reps S F (xs ++ ys) (vs ++ ws)
  | [], _, vs, _, h, t => by
    have h : vs = [] := h
    subst h
    exact t
  | x :: xs, ys, vs, ws, h, t => by
    obtain ⟨v, r, rfl, h2, h3⟩ := h
    exact ⟨v, r ++ ws, rfl, h2, Reps.append h3 t⟩
theorem Reps.set {x : PV} {v : V} (r : Rep S F x v) : ∀ {xs : List PV} {vs : List V} (i : Nat), Reps S F xs vs → Reps S F (xs.set i x) (vs.set i v)
  | [], vs, _, h => by
    have h : vs = [] := h
    subst h
    exact rfl
  | y :: ys, vs, 0, h => by
    obtain ⟨w, t, rfl, _, h3⟩ := h
    exact ⟨v, t, rfl, r, h3⟩
  | y :: ys, vs, i + 1, h => by
    obtain ⟨w, t, rfl, h2, h3⟩ := h
    exact ⟨w, t.set i v, rfl, h2, Reps.set r i h3⟩
theorem Reps.take : ∀ {xs : List PV} {vs : List V} (n : Nat), Reps S F xs vs → Reps S F (xs.take n) (vs.take n)
  | [], vs, n, h => by
    have h : vs = [] := h
    subst h
    simp [Reps]
  | y :: ys, vs, 0, h => by
    obtain ⟨w, t, rfl, _, h3⟩ := h
    exact rfl
  | y :: ys, vs, i + 1, h => by
    obtain ⟨w, t, rfl, h2, h3⟩ := h
    exact ⟨w, t.take i, rfl, h2, Reps.take i h3⟩
theorem Reps.drop : ∀ {xs : List PV} {vs : List V} (n : Nat), Reps S F xs vs → Reps S F (xs.drop n) (vs.drop n)
  | [], vs, n, h => by
    have h : vs = [] := h
    subst h
    simp [Reps]
  | y :: ys, vs, 0, h => h
  | y :: ys, vs, i + 1, h => by
    obtain ⟨w, t, rfl, h2, h3⟩ := h
    simpa using Reps.drop i h3
end

/-- what stands at p is x: an object that may be written; its parts are frozen -/
def Top (S : Sg) (F H : Hp) (p : Addr) : PV → Prop
  | .lst xs => ∃ vs, H p = some (.lst vs) ∧ Reps S F xs vs
  | .dct ks xs => ∃ vs, H p = some (.dK (ks.zip vs)) ∧ ks.length = vs.length ∧ Reps S F xs vs
  | .obj c xs => ∃ dx vs, H p = some (.ins (S.ca c) dx ((flds c).zip vs)) ∧ vs.length ≤ (flds c).length ∧ Reps S F xs vs
  | _ => False
theorem Top.mono {S : Sg} {F F' H H' : Hp} {p : Addr} (e : Same F F') (hp : H' p = H p) : ∀ {x : PV}, Top S F H p x → Top S F' H' p x := fun {x} h => by
  cases x with
  | lst xs =>
    obtain ⟨vs, h1, h2⟩ := h
    exact ⟨vs, hp.trans h1, Reps.mono e _ _ h2⟩
  | dct ks xs =>
    obtain ⟨vs, h1, h2, h3⟩ := h
    exact ⟨vs, hp.trans h1, h2, Reps.mono e _ _ h3⟩
  | obj c xs =>
    obtain ⟨dx, vs, h1, h2, h3⟩ := h
    exact ⟨dx, vs, hp.trans h1, h2, Reps.mono e _ _ h3⟩
  | _ => exact (show False from h).elim
theorem Top.there {S : Sg} {F H : Hp} {p : Addr} : ∀ {x : PV}, Top S F H p x → ∃ o, H p = some o := fun {x} h => by
  cases x with
  | lst xs => obtain ⟨vs, h1, h2⟩ := h; exact ⟨_, h1⟩
  | dct ks xs => obtain ⟨vs, h1, h2⟩ := h; exact ⟨_, h1⟩
  | obj c xs => obtain ⟨dx, vs, h1, h2⟩ := h; exact ⟨_, h1⟩
  | _ => exact (show False from h).elim
def PV.isD : PV → Bool
  | .dct _ _ => true
  | _ => false
/-- frozen -/
theorem Top.rep {S : Sg} {F H : Hp} {p : Addr} (e : F p = H p) : ∀ {x : PV}, x.isD = false → Top S F H p x → Rep S F x (.ref p) := fun {x} nd h => by
  cases x with
  | lst xs => obtain ⟨vs, h1, h2⟩ := h; exact ⟨p, vs, rfl, .inl (Rd.of (e.trans h1)), h2⟩
  | dct ks xs => cases nd
  | obj c xs => obtain ⟨dx, vs, h1, h2, h3⟩ := h; exact ⟨p, dx, vs, rfl, e.trans h1, h2, h3⟩
  | _ => exact (show False from h).elim

/-- a slot: nothing known, a frozen value, a new object that nobody else holds, an object handed in to be written -/
inductive Sl where
  | un | pu (x : PV) | ow (x : PV) | io (x : PV)
/-- an object that may be written -/
inductive Sl.Mt : Sl → PV → Prop where
  | ow (x : PV) : Sl.Mt (.ow x) x
  | io (x : PV) : Sl.Mt (.io x) x
def Sl.put : Sl → PV → Sl
  | .ow _, y => .ow y
  | _, y => .io y
abbrev Rh := List Sl

theorem same_upd {F : Hp} {p : Addr} {o : HO} (h : F p = none) : Same F (upd F p o) := fun b u e => by
  rw [upd_ne (ne_of_none e h)]
  exact e
theorem same_upd2 {F H : Hp} {p : Addr} {o : HO} (h : Same F H) : Same (upd F p o) (upd H p o) := fun b u e => by
  by_cases q : b = p
  · subst q
    rw [upd_same] at e ⊢
    exact e
  · rw [upd_ne q] at e ⊢
    exact h b u e

/-- the entry of a def: frozen and whole heap, the objects handed in to be written, and where they are -/
structure Fr where
  F : Hp
  H : Hp
  pin : List (Option Addr)
def Fr.own (φ : Fr) : List Addr := φ.pin.filterMap id

structure Stt (S : Sg) (φ : Fr) (ρ : Rh) (F : Hp) (σ : L2.St) (H : Hp) : Prop where
  len : ρ.length ≤ σ.length
  same : Same F H
  fF : Same φ.F F
  k1 : ∀ a o, φ.H a = some o → a ∉ φ.own → H a = some o
  k2 : ∀ a, φ.H a ≠ none → φ.F a = none → a ∉ φ.own → F a = none
  k3 : ∀ p, p ∈ φ.own → H p ≠ none
  slot : ∀ (i : Nat) (s : Sl), ρ[i]? = some s → match s with
    | .un => True
    | .pu x => ∃ v, σ[i]? = some (some v) ∧ Rep S F x v
    | .ow x => ∃ p, σ[i]? = some (some (.ref p)) ∧ F p = none ∧ φ.H p = none ∧ Top S F H p x
    | .io x => ∃ p, σ[i]? = some (some (.ref p)) ∧ F p = none ∧ φ.pin[i]? = some (some p) ∧ Top S F H p x
  sep : ∀ (i j : Nat) (s t : Sl) (x y : PV) (p : Addr), ρ[i]? = some s → ρ[j]? = some t → s.Mt x → t.Mt y → σ[i]? = some (some (.ref p)) → σ[j]? = some (some (.ref p)) → i = j

/-- the heap has grown: what may be written is as it was -/
structure Gw (F H F' H' : Hp) : Prop where
  f : Same F F'
  h : Same H H'
  fh : Same F' H'
  o : ∀ a, H a ≠ none → F a = none → F' a = none
theorem Gw.rfl' {F H : Hp} (h : Same F H) : Gw F H F H := ⟨Same.refl _, Same.refl _, h, fun _ _ e => e⟩
theorem Gw.trans {F H F1 H1 F2 H2 : Hp} (a : Gw F H F1 H1) (b : Gw F1 H1 F2 H2) : Gw F H F2 H2 := ⟨a.f.trans b.f, a.h.trans b.h, b.fh, fun x hx e => b.o x (fun z => hx (a.h.free z)) (a.o x hx e)⟩
/-- a new frozen object -/
theorem Gw.new {F H : Hp} {p : Addr} {o : HO} (s : Same F H) (h : H p = none) : Gw F H (upd F p o) (upd H p o) :=
  ⟨same_upd (s.free h), same_upd h, same_upd2 s, fun a ha e => by
    have q : a ≠ p := fun z => ha (by rw [z]; exact h)
    rw [upd_ne q]
    exact e⟩
/-- a new object that may be written -/
theorem Gw.newOwn {F H : Hp} {p : Addr} {o : HO} (s : Same F H) (h : H p = none) : Gw F H F (upd H p o) :=
  ⟨Same.refl _, same_upd h, s.trans (same_upd h), fun _ _ e => e⟩

section
variable {S : Sg} {φ : Fr} {ρ : Rh} {F F' H H' : Hp} {σ : L2.St}
theorem Fr.mem_own {i : Nat} {p : Addr} (h : φ.pin[i]? = some (some p)) : p ∈ φ.own := List.mem_filterMap.mpr ⟨some p, List.mem_of_getElem? h, rfl⟩
theorem Stt.grow (s : Stt S φ ρ F σ H) (g : Gw F H F' H') : Stt S φ ρ F' σ H' where
  len := s.len
  same := g.fh
  fF := s.fF.trans g.f
  k1 := fun a o e n => g.h a o (s.k1 a o e n)
  k2 := fun a e f n => g.o a (by
    cases q : φ.H a with
    | none => exact absurd q e
    | some o => rw [s.k1 a o q n]; simp) (s.k2 a e f n)
  k3 := fun p h z => s.k3 p h (g.h.free z)
  slot := fun i t e => by
    have q := s.slot i t e
    cases t with
    | un => exact True.intro
    | pu x =>
      obtain ⟨v, h1, h2⟩ := q
      exact ⟨v, h1, Rep.mono g.f _ _ h2⟩
    | ow x =>
      obtain ⟨p, h1, h2, h3, h4⟩ := q
      obtain ⟨o, ho⟩ := h4.there
      exact ⟨p, h1, g.o p (by rw [ho]; simp) h2, h3, Top.mono g.f ((g.h p o ho).trans ho.symm) h4⟩
    | io x =>
      obtain ⟨p, h1, h2, h3, h4⟩ := q
      obtain ⟨o, ho⟩ := h4.there
      exact ⟨p, h1, g.o p (by rw [ho]; simp) h2, h3, Top.mono g.f ((g.h p o ho).trans ho.symm) h4⟩
  sep := s.sep
/-- where an object that may be written stands -/
theorem Stt.mt (s : Stt S φ ρ F σ H) {i : Nat} {t : Sl} {x : PV} (e : ρ[i]? = some t) (m : t.Mt x) :
    ∃ p, σ[i]? = some (some (.ref p)) ∧ F p = none ∧ Top S F H p x ∧ (φ.H p = none ∨ p ∈ φ.own) := by
  cases m with
  | ow x =>
    obtain ⟨p, h1, h2, h3, h4⟩ := s.slot i _ e
    exact ⟨p, h1, h2, h4, .inl h3⟩
  | io x =>
    obtain ⟨p, h1, h2, h3, h4⟩ := s.slot i _ e
    exact ⟨p, h1, h2, h4, .inr (Fr.mem_own h3)⟩
/-- an object at p, new since the entry, that no slot may write, is frozen (as o: itself, or known to the object) -/
theorem Stt.freezeAs {p : Addr} {o : HO} (s : Stt S φ ρ F σ H) (fp : F p = none) (np : φ.H p = none)
    (no : ∀ (i : Nat) (t : Sl) (x : PV), ρ[i]? = some t → t.Mt x → σ[i]? ≠ some (some (.ref p))) : Same F (upd F p o) ∧ Stt S φ ρ (upd F p o) σ (upd H p o) := by
  have fr : Same F (upd F p o) := same_upd fp
  refine ⟨fr, s.len, same_upd2 s.same, s.fF.trans fr, fun a u q n => ?_, fun a h5 h6 h7 => ?_, fun a h e => ?_, fun j t q => ?_, s.sep⟩
  · rw [upd_ne (fun z => by rw [z, np] at q; cases q)]
    exact s.k1 a u q n
  · have z : a ≠ p := fun z => by
      subst z
      exact h5 np
    rw [upd_ne z]
    exact s.k2 a h5 h6 h7
  · by_cases z : a = p
    · subst z
      rw [upd_same] at e
      cases e
    · rw [upd_ne z] at e
      exact s.k3 a h e
  · have w := s.slot j t q
    cases t with
    | un => exact True.intro
    | pu y =>
      obtain ⟨v, k1, k2⟩ := w
      exact ⟨v, k1, Rep.mono fr _ _ k2⟩
    | ow y =>
      obtain ⟨p', k1, k2, k3, k4⟩ := w
      have nq : p' ≠ p := fun z' => by
        subst z'
        exact no j _ y q (.ow y) k1
      exact ⟨p', k1, by rw [upd_ne nq]; exact k2, k3, Top.mono fr (upd_ne nq) k4⟩
    | io y =>
      obtain ⟨p', k1, k2, k3, k4⟩ := w
      have nq : p' ≠ p := fun z' => by
        subst z'
        exact no j _ y q (.io y) k1
      exact ⟨p', k1, by rw [upd_ne nq]; exact k2, k3, Top.mono fr (upd_ne nq) k4⟩
theorem upd_self {H : Hp} {p : Addr} {o : HO} (h : H p = some o) : upd H p o = H := by
  funext b
  by_cases z : b = p
  · subst z
    rw [upd_same, h]
  · rw [upd_ne z]
/-- what a frozen thing is known as -/
inductive Fzn : PV → HO → HO → Prop where
  | same {x : PV} {o : HO} (h : x.isD = false) : Fzn x o o
  | dct {ks : List Key} {xs : List PV} {o : HO} (od : Obj) : Fzn (.dct ks xs) o (.frz od o)
theorem Top.fzn {p : Addr} {x : PV} {o o' : HO} {F' H' : Hp} (t : Top S F H p x) (ho : H p = some o) (z : Fzn x o o') (fp : F p = none) : Rep S (upd F p o') x (.ref p) := by
  have fr : Same F (upd F p o') := same_upd fp
  cases z with
  | same h => exact Top.rep (F := upd F p o) (H := H) (by rw [upd_same, ho]) h (Top.mono fr rfl t)
  | dct od =>
    obtain ⟨vs, h1, h2, h3⟩ := t
    rw [ho] at h1
    cases h1
    exact ⟨p, od, vs, rfl, upd_same, h2, Reps.mono fr _ _ h3⟩
/-- slot i is set, its value anything that is so -/
theorem Stt.setPu {i : Nat} {x : PV} {v : V} (s : Stt S φ ρ F σ H) (r : Rep S F x v) : Stt S φ (ρ.set i (.pu x)) F (σ.set i (some v)) H where
  len := by simpa using s.len
  same := s.same
  fF := s.fF
  k1 := s.k1
  k2 := s.k2
  k3 := s.k3
  slot := fun j t e => by
    by_cases z : i = j
    · subst z
      by_cases hl : i < ρ.length
      · rw [List.getElem?_set_self hl] at e
        cases e
        exact ⟨v, List.getElem?_set_self (Nat.lt_of_lt_of_le hl s.len), r⟩
      · rw [List.getElem?_eq_none (by simpa using hl)] at e
        cases e
    · rw [List.getElem?_set_ne z] at e
      rw [List.getElem?_set_ne z]
      exact s.slot j t e
  sep := fun j k t u y z p a b c d e f => by
    have nj : i ≠ j := fun w => by
      subst w
      by_cases hl : i < ρ.length
      · rw [List.getElem?_set_self hl] at a
        cases a
        cases c
      · rw [List.getElem?_eq_none (by simpa using hl)] at a
        cases a
    have nk : i ≠ k := fun w => by
      subst w
      by_cases hl : i < ρ.length
      · rw [List.getElem?_set_self hl] at b
        cases b
        cases d
      · rw [List.getElem?_eq_none (by simpa using hl)] at b
        cases b
    rw [List.getElem?_set_ne nj] at a e
    rw [List.getElem?_set_ne nk] at b f
    exact s.sep j k t u y z p a b c d e f
/-- .. a new object that nobody else holds -/
theorem Stt.setOw {i : Nat} {x : PV} {p : Addr} (s : Stt S φ ρ F σ H) (fp : F p = none) (np : φ.H p = none) (tp : Top S F H p x)
    (no : ∀ (i : Nat) (t : Sl) (x : PV), ρ[i]? = some t → t.Mt x → σ[i]? ≠ some (some (.ref p))) : Stt S φ (ρ.set i (.ow x)) F (σ.set i (some (.ref p))) H where
  len := by simpa using s.len
  same := s.same
  fF := s.fF
  k1 := s.k1
  k2 := s.k2
  k3 := s.k3
  slot := fun j t e => by
    by_cases z : i = j
    · subst z
      by_cases hl : i < ρ.length
      · rw [List.getElem?_set_self hl] at e
        cases e
        exact ⟨p, List.getElem?_set_self (Nat.lt_of_lt_of_le hl s.len), fp, np, tp⟩
      · rw [List.getElem?_eq_none (by simpa using hl)] at e
        cases e
    · rw [List.getElem?_set_ne z] at e
      rw [List.getElem?_set_ne z]
      exact s.slot j t e
  sep := fun j k t u y z q a b c d e f => by
    by_cases nj : i = j
    · by_cases nk : i = k
      · rw [← nj, ← nk]
      · exfalso
        subst nj
        rw [List.getElem?_set_ne nk] at b f
        by_cases hl : i < ρ.length
        · rw [List.getElem?_set_self (Nat.lt_of_lt_of_le hl s.len)] at e
          cases e
          exact no k u z b d f
        · rw [List.getElem?_eq_none (by simpa using hl)] at a
          cases a
    · rw [List.getElem?_set_ne nj] at a e
      by_cases nk : i = k
      · exfalso
        subst nk
        by_cases hl : i < ρ.length
        · rw [List.getElem?_set_self (Nat.lt_of_lt_of_le hl s.len)] at f
          cases f
          exact no j t y a c e
        · rw [List.getElem?_eq_none (by simpa using hl)] at b
          cases b
      · rw [List.getElem?_set_ne nk] at b f
        exact s.sep j k t u y z q a b c d e f
/-- a slot is forgotten -/
theorem Stt.unset {i : Nat} {w : Option V} (s : Stt S φ ρ F σ H) : Stt S φ (ρ.set i .un) F (σ.set i w) H where
  len := by simpa using s.len
  same := s.same
  fF := s.fF
  k1 := s.k1
  k2 := s.k2
  k3 := s.k3
  slot := fun j t e => by
    by_cases z : i = j
    · subst z
      by_cases hl : i < ρ.length
      · rw [List.getElem?_set_self hl] at e
        cases e
        exact True.intro
      · rw [List.getElem?_eq_none (by simpa using hl)] at e
        cases e
    · rw [List.getElem?_set_ne z] at e
      rw [List.getElem?_set_ne z]
      exact s.slot j t e
  sep := fun j k t u y z p a b c d e f => by
    have key : ∀ {m : Nat} {t : Sl} {y : PV}, (ρ.set i Sl.un)[m]? = some t → t.Mt y → i ≠ m := fun {m t y} a c w => by
      subst w
      by_cases hl : i < ρ.length
      · rw [List.getElem?_set_self hl] at a
        cases a
        cases c
      · rw [List.getElem?_eq_none (by simpa using hl)] at a
        cases a
    have nj := key a c
    have nk := key b d
    rw [List.getElem?_set_ne nj] at a e
    rw [List.getElem?_set_ne nk] at b f
    exact s.sep j k t u y z p a b c d e f
/-- .. where the slots themselves stay -/
theorem Stt.forget {i : Nat} (s : Stt S φ ρ F σ H) : Stt S φ (ρ.set i .un) F σ H := by
  have q := Stt.unset (i := i) (w := (σ[i]?).getD none) s
  have e : σ.set i ((σ[i]?).getD none) = σ := by
    apply List.ext_getElem?
    intro j
    by_cases z : i = j
    · subst z
      by_cases hl : i < σ.length
      · rw [List.getElem?_set_self hl, List.getElem?_eq_getElem hl]
        rfl
      · rw [List.getElem?_eq_none (by simpa using hl), List.getElem?_eq_none (by simpa using hl)]
    · rw [List.getElem?_set_ne z]
  rw [e] at q
  exact q
/-- the object in slot i is frozen -/
theorem Stt.freeze {i : Nat} {x : PV} {p : Addr} {o o' : HO} (s : Stt S φ ρ F σ H) (e : ρ[i]? = some (.ow x)) (h1 : σ[i]? = some (some (.ref p))) (ho : H p = some o) (z : Fzn x o o') :
    Rep S (upd F p o') x (.ref p) ∧ Same F (upd F p o') ∧ Stt S φ (ρ.set i (.pu x)) (upd F p o') σ (upd H p o') := by
  obtain ⟨p', h1', h2, h3, h4⟩ := s.slot i _ e
  rw [h1] at h1'
  cases h1'
  have lt : i < ρ.length := (List.getElem?_eq_some_iff.mp e).1
  have s1 : Stt S φ (ρ.set i .un) F σ H := s.forget
  obtain ⟨fr, s2⟩ := s1.freezeAs (o := o') h2 h3 fun j t y a b c => by
    by_cases z : i = j
    · subst z
      rw [List.getElem?_set_self lt] at a
      cases a
      cases b
    · rw [List.getElem?_set_ne z] at a
      exact z (s.sep i j _ t x y p e a (.ow x) b h1 c)
  have rp : Rep S (upd F p o') x (.ref p) := Top.fzn (F' := F) (H' := H) h4 ho z h2
  have lts : i < σ.length := (List.getElem?_eq_some_iff.mp h1).1
  have s3 := s2.setPu (i := i) rp
  rw [List.set_set] at s3
  have es : σ.set i (some (V.ref p)) = σ := by
    apply List.ext_getElem?
    intro j
    by_cases z : i = j
    · subst z
      rw [List.getElem?_set_self lts, h1]
    · rw [List.getElem?_set_ne z]
  rw [es] at s3
  exact ⟨rp, fr, s3⟩
/-- the object at slot i is written -/
theorem Stt.write {i : Nat} {t : Sl} {x y : PV} {p : Addr} {o : HO} (s : Stt S φ ρ F σ H) (e : ρ[i]? = some t) (m : t.Mt x) (hp : σ[i]? = some (some (.ref p))) (top : ∀ H', H' p = some o → Top S F H' p y) :
    Stt S φ (ρ.set i (t.put y)) F σ (upd H p o) := by
  obtain ⟨p', h1, h2, h3, h4⟩ := s.mt e m
  rw [hp] at h1
  cases h1
  have lt : i < ρ.length := (List.getElem?_eq_some_iff.mp e).1
  have oth : ∀ {b : Addr}, b ≠ p → upd H p o b = H b := fun {b} z => upd_ne z
  refine ⟨by simpa using s.len, fun b u q => ?_, s.fF, fun a u q n => ?_, s.k2, fun a h e => ?_, fun j u q => ?_, fun j k u v y' z' q a b c d e' f => ?_⟩
  · rw [oth (ne_of_none q h2)]
    exact s.same b u q
  · rw [oth fun z => ?_]
    · exact s.k1 a u q n
    · subst z
      rcases h4 with h4 | h4
      · rw [h4] at q; cases q
      · exact n h4
  · by_cases z : a = p
    · subst z
      rw [upd_same] at e
      cases e
    · rw [upd_ne z] at e
      exact s.k3 a h e
  · by_cases z : i = j
    · subst z
      rw [List.getElem?_set_self lt] at q
      cases q
      have w := s.slot i _ e
      cases m with
      | ow x =>
        obtain ⟨p', k1, k2, k3, k4⟩ := w
        rw [hp] at k1
        cases k1
        exact ⟨p, hp, k2, k3, top _ upd_same⟩
      | io x =>
        obtain ⟨p', k1, k2, k3, k4⟩ := w
        rw [hp] at k1
        cases k1
        exact ⟨p, hp, k2, k3, top _ upd_same⟩
    · rw [List.getElem?_set_ne z] at q
      have w := s.slot j u q
      cases u with
      | un => exact True.intro
      | pu y' => exact w
      | ow y' =>
        obtain ⟨p', k1, k2, k3, k4⟩ := w
        refine ⟨p', k1, k2, k3, Top.mono (Same.refl _) (oth fun z' => ?_) k4⟩
        subst z'
        exact z (s.sep i j _ _ x y' p' e q m (.ow y') hp k1)
      | io y' =>
        obtain ⟨p', k1, k2, k3, k4⟩ := w
        refine ⟨p', k1, k2, k3, Top.mono (Same.refl _) (oth fun z' => ?_) k4⟩
        subst z'
        exact z (s.sep i j _ _ x y' p' e q m (.io y') hp k1)
  · have key : ∀ {n : Nat} {u : Sl} {y' : PV}, (ρ.set i (t.put y))[n]? = some u → u.Mt y' → ∃ (t' : Sl) (w : PV), ρ[n]? = some t' ∧ t'.Mt w := fun {n u y'} q1 q2 => by
      by_cases z : i = n
      · subst z
        exact ⟨t, x, e, m⟩
      · rw [List.getElem?_set_ne z] at q1
        exact ⟨u, y', q1, q2⟩
    obtain ⟨t1, w1, r1, r2⟩ := key a c
    obtain ⟨t2, w2, r3, r4⟩ := key b d
    exact s.sep j k t1 t2 w1 w2 q r1 r3 r2 r4 e' f
end
end Y

/-! Y2: judgements; expressions without calls. -/
namespace L2
open PySem PySem.Spec
theorem PE.imp {X : Cx} {e : Expr} {t t' : TE} (h : PE X e t) (i : ∀ σ H Q, t' σ H Q → t σ H Q) : PE X e t' := ⟨fun pins s σ H Q I q => h.run pins s σ H Q I (i σ H Q q)⟩
theorem PT.imp {X : Cx} {e : Expr} {t t' : TT} (h : PT X e t) (i : ∀ σ H Q, t' σ H Q → t σ H Q) : PT X e t' := ⟨fun pins s σ H Q I q => h.run pins s σ H Q I (i σ H Q q)⟩
theorem PW.imp {X : Cx} {e : Expr} {t t' : TT} (h : PW X e t) (i : ∀ σ H Q, t' σ H Q → t σ H Q) : PW X e t' := ⟨fun w pins s σ H Q I q => h.run w pins s σ H Q I (i σ H Q q)⟩
end L2

namespace Y
open PySem PySem.Spec L2

inductive Ou (α : Type) where
  | ok (a : α) | ex (c : Cid)
abbrev SM (α : Type) := Rh → Option (Ou α × Rh)
def SM.bind {α β : Type} (m : SM α) (k : α → SM β) : SM β := fun ρ => match m ρ with
  | some (.ok a, ρ') => k a ρ'
  | some (.ex c, ρ') => some (.ex c, ρ')
  | none => none
theorem SM.bind_ok {α β : Type} {m : SM α} {k : α → SM β} {ρ ρ' : Rh} {a : α} (h : m ρ = some (.ok a, ρ')) : m.bind k ρ = k a ρ' := by
  unfold SM.bind
  rw [h]
theorem SM.bind_ex {α β : Type} {m : SM α} {k : α → SM β} {ρ ρ' : Rh} {c : Cid} (h : m ρ = some (.ex c, ρ')) : m.bind k ρ = some (.ex c, ρ') := by
  unfold SM.bind
  rw [h]
abbrev SE := SM PV

/-- an outcome is as wished -/
def OG {α : Type} (S : Sg) (φ : Fr) (W : WX) (F : Hp) (σ : L2.St) (P : α → Rh → Hp → Hp → Prop) : Ou α × Rh → Prop
  | (.ok a, ρ') => ∀ F' H', Stt S φ ρ' F' σ H' → Same F F' → P a ρ' F' H'
  | (.ex c, ρ') => ∀ d F' H', Stt S φ ρ' F' σ H' → Same F F' → W (.ref (S.ca c)) d σ H'
section
variable {α β : Type} {S : Sg} {φ : Fr} {W : WX} {F F1 : Hp} {σ : L2.St} {P P' : α → Rh → Hp → Hp → Prop}
theorem OG.imp {r : Ou α × Rh} (o : OG S φ W F σ P r) (h : ∀ a ρ' F' H', Stt S φ ρ' F' σ H' → Same F F' → P a ρ' F' H' → P' a ρ' F' H') : OG S φ W F σ P' r := by
  obtain ⟨a, ρ'⟩ := r
  cases a with
  | ok a => exact fun F' H' s e => h a ρ' F' H' s e (o F' H' s e)
  | ex c => exact o
theorem OG.up {r : Ou α × Rh} (o : OG S φ W F σ P r) (e : Same F F1) : OG S φ W F1 σ P r := by
  obtain ⟨a, ρ'⟩ := r
  cases a with
  | ok a => exact fun F' H' s f => o F' H' s (e.trans f)
  | ex c => exact fun d F' H' s f => o d F' H' s (e.trans f)
/-- one stage behind another -/
def St2 (S : Sg) (φ : Fr) (W : WX) (σ : L2.St) (k : α → SM β) (P : β → Rh → Hp → Hp → Prop) : α → Rh → Hp → Hp → Prop := fun a ρ1 F1 _ => ∃ r, k a ρ1 = some r ∧ OG S φ W F1 σ P r
theorem OG.seq {m : SM α} {k : α → SM β} {ρ : Rh} {r : Ou β × Rh} {P : β → Rh → Hp → Hp → Prop} (e : m.bind k ρ = some r) (o : OG S φ W F σ P r) :
    ∃ r1, m ρ = some r1 ∧ OG S φ W F σ (St2 S φ W σ k P) r1 := by
  unfold SM.bind at e
  cases q : m ρ with
  | none => rw [q] at e; cases e
  | some z =>
    obtain ⟨a, ρ1⟩ := z
    rw [q] at e
    cases a with
    | ok a => exact ⟨_, rfl, fun F' H' s f => ⟨r, e, o.up f⟩⟩
    | ex c =>
      cases e
      exact ⟨_, rfl, o⟩
end

/-! ### the readings -/
section
variable (S : Sg) (φ : Fr) (W : WX)
/-- an expression that gives a frozen value -/
def tJ (f : SE) : TE := fun σ H Q => ∃ ρ F r, Stt S φ ρ F σ H ∧ f ρ = some r ∧ OG S φ W F σ (fun x ρ' F' H' => ∀ v, Rep S F' x v → Q v H') r
def tT (f : SM Bool) : TT := fun σ H Q => ∃ ρ F r, Stt S φ ρ F σ H ∧ f ρ = some r ∧ OG S φ W F σ (fun b ρ' F' H' => Q b H') r
/-- p is new since the entry, not frozen, and no slot may write it -/
structure Nw (ρ : Rh) (F : Hp) (σ : L2.St) (p : Addr) : Prop where
  f : F p = none
  h : φ.H p = none
  no : ∀ (i : Nat) (t : Sl) (x : PV), ρ[i]? = some t → t.Mt x → σ[i]? ≠ some (some (.ref p))
/-- an expression that gives a new object that nobody holds -/
def tN (f : SE) : TE := fun σ H Q => ∃ ρ F r, Stt S φ ρ F σ H ∧ f ρ = some r ∧ OG S φ W F σ (fun x ρ' F' H' => ∀ p, Nw φ ρ' F' σ p → Top S F' H' p x → Q (.ref p) H') r
/-- .. that is to be read now: frozen, or held by a slot -/
def tB (f : SE) : TE := fun σ H Q => ∃ ρ F r, Stt S φ ρ F σ H ∧ f ρ = some r ∧ OG S φ W F σ (fun x ρ' F' H' => ∀ v, (Rep S F' x v ∨ ∃ p, v = .ref p ∧ Top S F' H' p x) → Q v H') r
end
abbrev JE (X : Cx) (S : Sg) (φ : Fr) (W : WX) (e : Expr) (f : SE) : Prop := PE X e (tJ S φ W f)
abbrev JT (X : Cx) (S : Sg) (φ : Fr) (W : WX) (e : Expr) (f : SM Bool) : Prop := PT X e (tT S φ W f)
abbrev JW (X : Cx) (S : Sg) (φ : Fr) (W : WX) (e : Expr) (f : SM Bool) : Prop := PW X e (tT S φ W f)
abbrev JN (X : Cx) (S : Sg) (φ : Fr) (W : WX) (e : Expr) (f : SE) : Prop := PE X e (tN S φ W f)
abbrev JB (X : Cx) (S : Sg) (φ : Fr) (W : WX) (e : Expr) (f : SE) : Prop := PE X e (tB S φ W f)

section
variable {X : Cx} {S : Sg} {φ : Fr} {W : WX} {e a b c : Expr} {f fa fb fc : SE} {pos : Pos}

/-- a thing is frozen: a dict is locked for good -/
theorem _root_.L2.Inv.fzn {pins : List (Addr × Obj)} {σ : L2.St} {H F : Hp} {s : Shared} {p : Addr} {x : PV} {u : HO} (I : Inv X pins σ H s) (t : Top S F H p x) (hu : H p = some u) :
    ∃ u', Fzn x u u' ∧ Inv X pins σ (upd H p u') s := by
  cases x with
  | dct ks xs =>
    obtain ⟨vs, h1, h2, h3⟩ := t
    rw [hu] at h1
    cases h1
    obtain ⟨od, I2⟩ := I.lock hu True.intro
    exact ⟨_, .dct od, I2⟩
  | _ => exact ⟨u, .same rfl, by rw [upd_self hu]; exact I⟩

/-! ### constants, names -/
def eC (x : PV) : SE := fun ρ => some (.ok x, ρ)
theorem je_c {x : PV} {v : V} (h : PE X e (tC v)) (r : ∀ F, Rep S F x v) : JE X S φ W e (eC x) := h.imp fun σ H Q ⟨ρ, F, r', s, e1, o⟩ => by
  cases e1
  exact o F H s (Same.refl _) v (r F)
theorem je_int {i : Int} {j : Nat} : JE X S φ W (.Constant (.int i) j pos) (eC (.int i)) := je_c pe_int fun _ => rfl
theorem je_bl {k : Bool} {j : Nat} : JE X S φ W (.Constant (.bool k) j pos) (eC (.bl k)) := je_c pe_bl fun _ => rfl
theorem je_non {j : Nat} : JE X S φ W (.Constant .none j pos) (eC .non) := je_c pe_non fun _ => rfl
theorem je_str {x : Str} {j : Nat} : JE X S φ W (.Constant (.str x) j pos) (eC (.str x)) := je_c pe_str fun _ => rfl
theorem je_cls {x : Str} {c : Cid} (hg : Gl X x) (hm : X.mg x = some (.ref (S.ca c))) (hd : (x == ("__debug__" : Str)) = false := by decide) : JE X S φ W (.Name x pos) (eC (.cls c)) :=
  je_c (pe_glob (v := .ref (S.ca c)) hg hm rfl hd) fun _ => rfl
theorem je_gint {x : Str} {i : Int} (hg : Gl X x) (hm : ∃ t, X.mg x = some (.int i t)) (hd : (x == ("__debug__" : Str)) = false := by decide) : JE X S φ W (.Name x pos) (eC (.int i)) := by
  obtain ⟨t, hm⟩ := hm
  exact je_c (pe_glob (v := .int i) hg hm ⟨_, rfl⟩ hd) fun _ => rfl
theorem je_gstr {x z : Str} (hg : Gl X x) (hm : ∃ t, X.mg x = some (.str z t)) (hd : (x == ("__debug__" : Str)) = false := by decide) : JE X S φ W (.Name x pos) (eC (.str z)) := by
  obtain ⟨t, hm⟩ := hm
  exact je_c (pe_glob (v := .str z) hg hm ⟨_, rfl⟩ hd) fun _ => rfl

/-- a name: a frozen value; a new object is frozen by being read so -/
def eV (i : Nat) : SE := fun ρ => match ρ[i]? with
  | some (.pu x) => some (.ok x, ρ)
  | some (.ow x) => some (.ok x, ρ.set i (.pu x))
  | _ => none
theorem je_v (i : Nat) {x : Str} (hN : X.N[i]? = some x := by rfl) (hv : Vis X.env.scope x := by first | exact Or.inl rfl | exact Or.inr (Or.inl rfl) | exact Or.inr (Or.inr rfl)) (hd : (x == ("__debug__" : Str)) = false := by decide)
    (hcd : (x == ("__classdict__" : Str)) = false := by decide) : JE X S φ W (.Name x pos) (eV i) := by
  have pv := pe_var (pos := pos) hN hv hd hcd
  refine ⟨fun pins s0 σ H Q I h => ?_⟩
  obtain ⟨ρ, F, r, s, e1, o⟩ := h
  unfold eV at e1
  split at e1
  · rename_i y q
    cases e1
    obtain ⟨v, h1, h2⟩ := s.slot i _ q
    exact pv.run pins s0 σ H Q I ⟨v, h1, o F H s (Same.refl _) v h2⟩
  · rename_i y q
    cases e1
    obtain ⟨p, h1, h2, h3, h4⟩ := s.slot i _ q
    obtain ⟨u, hu⟩ := h4.there
    obtain ⟨u', z, I2⟩ := I.fzn h4 hu
    obtain ⟨r1, r2, r3⟩ := s.freeze q h1 hu z
    exact pv.run pins s0 σ _ Q I2 ⟨_, h1, o _ _ r3 r2 _ r1⟩
  · cases e1
/-- a name to be read from now -/
def eB (i : Nat) : SE := fun ρ => match ρ[i]? with
  | some (.pu x) => some (.ok x, ρ)
  | some (.ow x) => some (.ok x, ρ)
  | some (.io x) => some (.ok x, ρ)
  | _ => none
theorem jb_v (i : Nat) {x : Str} (hN : X.N[i]? = some x := by rfl) (hv : Vis X.env.scope x := by first | exact Or.inl rfl | exact Or.inr (Or.inl rfl) | exact Or.inr (Or.inr rfl)) (hd : (x == ("__debug__" : Str)) = false := by decide)
    (hcd : (x == ("__classdict__" : Str)) = false := by decide) : JB X S φ W (.Name x pos) (eB i) := (pe_var hN hv hd hcd).imp fun σ H Q ⟨ρ, F, r, s, e1, o⟩ => by
  unfold eB at e1
  split at e1
  · rename_i y q
    cases e1
    obtain ⟨v, h1, h2⟩ := s.slot i _ q
    exact ⟨v, h1, o F H s (Same.refl _) v (.inl h2)⟩
  · rename_i y q
    cases e1
    obtain ⟨p, h1, h2, h3, h4⟩ := s.mt q (.ow y)
    exact ⟨_, h1, o F H s (Same.refl _) _ (.inr ⟨p, rfl, h3⟩)⟩
  · rename_i y q
    cases e1
    obtain ⟨p, h1, h2, h3, h4⟩ := s.mt q (.io y)
    exact ⟨_, h1, o F H s (Same.refl _) _ (.inr ⟨p, rfl, h3⟩)⟩
  · cases e1
theorem JE.toB (h : JE X S φ W e f) : JB X S φ W e f := h.imp fun σ H Q ⟨ρ, F, r, s, e1, o⟩ => ⟨ρ, F, r, s, e1, o.imp fun x ρ' F' H' s' sm q v hv => q v (.inl hv)⟩
/-- a new object, frozen -/
theorem JN.toE (h : JN X S φ W e f) : JE X S φ W e f := by
  refine ⟨fun pins s0 σ H Q I hq => ?_⟩
  obtain ⟨ρ, F, r, s, e1, o⟩ := hq
  refine thn (h.run pins s0 σ H (fun v H1 => ∃ p x ρ' F' , v = .ref p ∧ Stt S φ ρ' F' σ H1 ∧ Nw φ ρ' F' σ p ∧ Top S F' H1 p x ∧ ∀ F2 H2, Stt S φ ρ' F2 σ H2 → Same F' F2 → ∀ v, Rep S F2 x v → Q v H2) I ⟨ρ, F, r, s, e1, ?_⟩) fun u s1 q => ?_
  · obtain ⟨a, ρ'⟩ := r
    cases a with
    | ok x => exact fun F' H' s' sm p nw tp => ⟨p, x, ρ', F', rfl, s', nw, tp, fun F2 H2 s2 sm2 v rv => o F2 H2 s2 (sm.trans sm2) v rv⟩
    | ex c => exact o
  · obtain ⟨v, H1, I1, rv, p, x, ρ', F', ev, s', nw, tp, q⟩ := q
    subst ev
    obtain ⟨u0, hu⟩ := tp.there
    obtain ⟨u', z, I2⟩ := I1.fzn tp hu
    obtain ⟨fr, s2⟩ := s'.freezeAs (o := u') nw.f nw.h nw.no
    exact ⟨_, _, I2, rv, q _ _ s2 fr _ (Top.fzn (F' := F') (H' := H1) tp hu z nw.f)⟩
theorem JN.toB (h : JN X S φ W e f) : JB X S φ W e f := JE.toB (JN.toE h)

/-! ### operators -/
def eOp (op : PV → PV → Option PV) (fa fb : SE) : SE := fa.bind fun x => fb.bind fun y => fun ρ => match op x y with
  | some z => some (.ok z, ρ)
  | none => none
/-- an operation on values that raises nothing and changes nothing -/
def Op2 (X : Cx) (S : Sg) (fv : Value → Value → Sem Value) (op : PV → PV → Option PV) : Prop :=
  ∃ r : R2, OpR X fv r ∧ ∀ (F H : Hp) (x y z : PV) (v w : V) (Q : VK), Same F H → Rep S F x v → Rep S F y w → op x y = some z → (∀ u F' H', Gw F H F' H' → Rep S F' z u → Q u H') → r v w H Q
theorem op2_of {fv : Value → Value → Sem Value} {op : PV → PV → Option PV} {r : R2} (h : OpR X fv r)
    (q : ∀ (F H : Hp) (x y z : PV) (v w : V) (Q : VK), Same F H → Rep S F x v → Rep S F y w → op x y = some z → (∀ u F' H', Gw F H F' H' → Rep S F' z u → Q u H') → r v w H Q) : Op2 X S fv op := ⟨r, h, q⟩
theorem Op2.or {fv : Value → Value → Sem Value} {op op' : PV → PV → Option PV} (h : Op2 X S fv op) (h' : Op2 X S fv op') : Op2 X S fv (fun x y => match op x y with
    | some z => some z
    | none => op' x y) := by
  obtain ⟨r, h1, h2⟩ := h
  obtain ⟨r', h1', h2'⟩ := h'
  refine ⟨_, OpR.or h1 h1', fun F H x y z v w Q s a b e k => ?_⟩
  cases q : op x y with
  | some z' =>
    dsimp only at e
    rw [q] at e
    cases e
    exact .inl (h2 F H x y z v w Q s a b q k)
  | none =>
    dsimp only at e
    rw [q] at e
    exact .inr (h2' F H x y z v w Q s a b e k)
theorem two {op : PV → PV → Option PV} {r : R2} (h2 : ∀ (F H : Hp) (x y z : PV) (v w : V) (Q : VK), Same F H → Rep S F x v → Rep S F y w → op x y = some z → (∀ u F' H', Gw F H F' H' → Rep S F' z u → Q u H') → r v w H Q)
    {σ : L2.St} {H : Hp} {Q : VK} (h : tJ S φ W (eOp op fa fb) σ H Q) : tOp r (tJ S φ W fa) (tJ S φ W fb) σ H Q := by
  obtain ⟨ρ, F, z, s, e1, o⟩ := h
  obtain ⟨r1, e2, o2⟩ := OG.seq e1 o
  refine ⟨ρ, F, r1, s, e2, o2.imp fun x ρ1 F1 H1 s1 m1 ⟨r2, e3, o3⟩ v hv => ?_⟩
  obtain ⟨r3, e4, o4⟩ := OG.seq e3 o3
  refine ⟨ρ1, F1, r3, s1, e4, o4.imp fun y ρ2 F2 H2 s2 m2 ⟨r4, e5, o5⟩ w hw => ?_⟩
  dsimp only at e5
  cases q : op x y with
  | none => rw [q] at e5; cases e5
  | some z =>
    rw [q] at e5
    cases e5
    exact h2 F2 H2 x y z v w Q s2.same (Rep.mono m2 _ _ hv) hw q fun u F' H' g ru => o5 F' H' (s2.grow g) g.f u ru
theorem je_op {o : Operator} {op : PV → PV → Option PV} (ho : Op2 X S (binaryOp o) op) (ha : JE X S φ W a fa) (hb : JE X S φ W b fb) : JE X S φ W (.BinOp a o b pos) (eOp op fa fb) := by
  obtain ⟨r, h1, h2⟩ := ho
  exact (pe_op h1 ha hb).imp fun σ H Q h => two h2 h
theorem je_cmp {o : CmpOp} {op : PV → PV → Option PV} (ho : Op2 X S (compareOp o) op) (ha : JE X S φ W a fa) (hb : JE X S φ W b fb) (hm : behindInMarks o b = false) : JE X S φ W (.Compare a [o] [b] pos) (eOp op fa fb) := by
  obtain ⟨r, h1, h2⟩ := ho
  exact (pe_cmpR h1 ha hb hm).imp fun σ H Q h => two h2 h
/-- a value that must be a truth value -/
def eBl (f : SE) : SM Bool := f.bind fun x => fun ρ => match x with
  | .bl b => some (.ok b, ρ)
  | _ => none
theorem test_of {t : TE} {σ : L2.St} {H : Hp} {Q : Bool → Hp → Prop} (i : ∀ σ H Q, tJ S φ W f σ H Q → t σ H Q) (h : tT S φ W (eBl f) σ H Q) : tTest t σ H Q := by
  obtain ⟨ρ, F, z, s, e1, o⟩ := h
  obtain ⟨r1, e2, o2⟩ := OG.seq e1 o
  refine i _ _ _ ⟨ρ, F, r1, s, e2, o2.imp fun x ρ1 F1 H1 s1 m1 ⟨r2, e3, o3⟩ v hv => ?_⟩
  cases x with
  | bl k =>
    cases e3
    have hv : v = .bl k := hv
    exact ⟨k, hv, o3 F1 H1 s1 (Same.refl _)⟩
  | _ => cases e3
theorem jt_cmp {o : CmpOp} {op : PV → PV → Option PV} (ho : Op2 X S (compareOp o) op) (ha : JE X S φ W a fa) (hb : JE X S φ W b fb) (hm : behindInMarks o b = false) : JT X S φ W (.Compare a [o] [b] pos) (eBl (eOp op fa fb)) := by
  obtain ⟨r, h1, h2⟩ := ho
  exact (pt_cmpR h1 ha hb hm).imp fun σ H Q h => test_of (fun σ H Q h => two h2 h) h
theorem jt_val (h : JE X S φ W e f) (he : ∀ whole, isTrue e X.env whole = (do let v ← whole; standAt e.pos; holding [v] (truthy v)) := by intro _; rfl) : JT X S φ W e (eBl f) :=
  (pt_val h he).imp fun σ H Q h => test_of (fun σ H Q h => h) h

/-! ### and, or, not, if -/
def tAndM (f g : SM Bool) : SM Bool := f.bind fun b => if b = true then g else fun ρ => some (.ok false, ρ)
def tOrM (f g : SM Bool) : SM Bool := f.bind fun b => if b = true then fun ρ => some (.ok true, ρ) else g
def tNotM (f : SM Bool) : SM Bool := f.bind fun b => fun ρ => some (.ok (!b), ρ)
variable {rest : List Expr} {g h : SM Bool}
theorem JT.and1 (ha : JT X S φ W a g) : JW X S φ W (.BoolOp .And [a] pos) g := pw_and1 ha
theorem JT.or1 (ha : JT X S φ W a g) : JW X S φ W (.BoolOp .Or [a] pos) g := pw_or1 ha
theorem JT.and (ha : JT X S φ W a g) (hb : JW X S φ W (.BoolOp .And (b :: rest) pos) h) : JW X S φ W (.BoolOp .And (a :: b :: rest) pos) (tAndM g h) := (pw_and ha hb).imp fun σ H Q ⟨ρ, F, z, s, e1, o⟩ => by
  obtain ⟨r1, e2, o2⟩ := OG.seq e1 o
  refine ⟨ρ, F, r1, s, e2, o2.imp fun k ρ1 F1 H1 s1 m1 ⟨r2, e3, o3⟩ => ?_⟩
  cases k with
  | true => exact iteT ⟨ρ1, F1, r2, s1, e3, o3⟩
  | false =>
    cases e3
    exact iteF (o3 F1 H1 s1 (Same.refl _))
theorem JT.or (ha : JT X S φ W a g) (hb : JW X S φ W (.BoolOp .Or (b :: rest) pos) h) : JW X S φ W (.BoolOp .Or (a :: b :: rest) pos) (tOrM g h) := (pw_or ha hb).imp fun σ H Q ⟨ρ, F, z, s, e1, o⟩ => by
  obtain ⟨r1, e2, o2⟩ := OG.seq e1 o
  refine ⟨ρ, F, r1, s, e2, o2.imp fun k ρ1 F1 H1 s1 m1 ⟨r2, e3, o3⟩ => ?_⟩
  cases k with
  | false => exact iteF ⟨ρ1, F1, r2, s1, e3, o3⟩
  | true =>
    cases e3
    exact iteT (o3 F1 H1 s1 (Same.refl _))
theorem jt_w (h : JW X S φ W e g) : JT X S φ W e g := PW.pt h
theorem jt_not (ha : JT X S φ W a g) : JT X S φ W (.UnaryOp .Not a pos) (tNotM g) := (pt_not ha).imp fun σ H Q ⟨ρ, F, z, s, e1, o⟩ => by
  obtain ⟨r1, e2, o2⟩ := OG.seq e1 o
  refine ⟨ρ, F, r1, s, e2, o2.imp fun k ρ1 F1 H1 s1 m1 ⟨r2, e3, o3⟩ => ?_⟩
  cases e3
  exact o3 F1 H1 s1 (Same.refl _)
/-- as values -/
def eAnd (f g : SE) : SE := f.bind fun x => match x with
  | .bl true => g
  | .bl false => fun ρ => some (.ok (.bl false), ρ)
  | _ => fun _ => none
def eOr (f g : SE) : SE := f.bind fun x => match x with
  | .bl false => g
  | .bl true => fun ρ => some (.ok (.bl true), ρ)
  | _ => fun _ => none
def eNot (f : SE) : SE := f.bind fun x => match x with
  | .bl b => fun ρ => some (.ok (.bl (!b)), ρ)
  | _ => fun _ => none
theorem je_one {op : BoolOp} (h : JE X S φ W a fa) : JE X S φ W (.BoolOp op [a] pos) fa := pe_one h
theorem je_and (ha : JE X S φ W a fa) (hb : JE X S φ W (.BoolOp .And (b :: rest) pos) fb) : JE X S φ W (.BoolOp .And (a :: b :: rest) pos) (eAnd fa fb) := (pe_and ha hb).imp fun σ H Q ⟨ρ, F, z, s, e1, o⟩ => by
  obtain ⟨r1, e2, o2⟩ := OG.seq e1 o
  refine ⟨ρ, F, r1, s, e2, o2.imp fun x ρ1 F1 H1 s1 m1 ⟨r2, e3, o3⟩ v hv => ?_⟩
  cases x with
  | bl k =>
    have hv : v = .bl k := hv
    refine ⟨k, hv, ?_⟩
    cases k with
    | true => exact iteT ⟨ρ1, F1, r2, s1, e3, o3⟩
    | false =>
      cases e3
      exact iteF (o3 F1 H1 s1 (Same.refl _) _ rfl)
  | _ => cases e3
theorem je_or (ha : JE X S φ W a fa) (hb : JE X S φ W (.BoolOp .Or (b :: rest) pos) fb) : JE X S φ W (.BoolOp .Or (a :: b :: rest) pos) (eOr fa fb) := (pe_or ha hb).imp fun σ H Q ⟨ρ, F, z, s, e1, o⟩ => by
  obtain ⟨r1, e2, o2⟩ := OG.seq e1 o
  refine ⟨ρ, F, r1, s, e2, o2.imp fun x ρ1 F1 H1 s1 m1 ⟨r2, e3, o3⟩ v hv => ?_⟩
  cases x with
  | bl k =>
    have hv : v = .bl k := hv
    refine ⟨k, hv, ?_⟩
    cases k with
    | false => exact iteF ⟨ρ1, F1, r2, s1, e3, o3⟩
    | true =>
      cases e3
      exact iteT (o3 F1 H1 s1 (Same.refl _) _ rfl)
  | _ => cases e3
theorem je_not (ha : JE X S φ W a fa) : JE X S φ W (.UnaryOp .Not a pos) (eNot fa) := (pe_not ha).imp fun σ H Q ⟨ρ, F, z, s, e1, o⟩ => by
  obtain ⟨r1, e2, o2⟩ := OG.seq e1 o
  refine ⟨ρ, F, r1, s, e2, o2.imp fun x ρ1 F1 H1 s1 m1 ⟨r2, e3, o3⟩ v hv => ?_⟩
  cases x with
  | bl k =>
    have hv : v = .bl k := hv
    cases e3
    exact ⟨k, hv, o3 F1 H1 s1 (Same.refl _) _ rfl⟩
  | _ => cases e3
def eIf (t : SM Bool) (f g : SE) : SE := t.bind fun b => if b = true then f else g
theorem je_if (hc : JT X S φ W c g) (ha : JE X S φ W a fa) (hb : JE X S φ W b fb) : JE X S φ W (.IfExp c a b pos) (eIf g fa fb) := (pe_ifExp hc ha hb).imp fun σ H Q ⟨ρ, F, z, s, e1, o⟩ => by
  obtain ⟨r1, e2, o2⟩ := OG.seq e1 o
  refine ⟨ρ, F, r1, s, e2, o2.imp fun k ρ1 F1 H1 s1 m1 ⟨r2, e3, o3⟩ => ?_⟩
  cases k with
  | true => exact iteT ⟨ρ1, F1, r2, s1, e3, o3⟩
  | false => exact iteF ⟨ρ1, F1, r2, s1, e3, o3⟩
end
end Y

/-! Y3: statements, targets, loops. -/
namespace L2
open PySem PySem.Spec
theorem PS.imp {X : Cx} {e : Stmt} {t t' : TS} (h : PS X e t) (i : ∀ D σ H, t' D σ H → t D σ H) : PS X e t' := ⟨fun pins s σ H D I q => h.run pins s σ H D I (i D σ H q)⟩
theorem PSs.imp {X : Cx} {e : List Stmt} {t t' : TS} (h : PSs X e t) (i : ∀ D σ H, t' D σ H → t D σ H) : PSs X e t' := ⟨fun pins s σ H D I q => h.run pins s σ H D I (i D σ H q)⟩
theorem PG.imp {X : Cx} {e : Expr} {t t' : TG} (h : PG X e t) (i : ∀ v σ H Q, t' v σ H Q → t v σ H Q) : PG X e t' := ⟨fun pins s σ H v u Q I r q => h.run pins s σ H v u Q I r (i v σ H Q q)⟩
theorem PGs.imp {X : Cx} {e : List Expr} {t t' : TGs} (h : PGs X e t) (i : ∀ v σ H Q, t' v σ H Q → t v σ H Q) : PGs X e t' := ⟨fun pins s σ H v u Q I r q => h.run pins s σ H v u Q I r (i v σ H Q q)⟩
end L2
namespace Y
open PySem PySem.Spec L2

inductive Fl where
  | nx | rt (s : Sl) | bk | ct | ex (c : Cid)
abbrev SS := Rh → Option (Fl × Rh)

section
variable (S : Sg) (φ : Fr) (W : WX)
/-- what a def gives back: a frozen value, or a new object -/
def RtV (ρ : Rh) (F : Hp) (σ : L2.St) (H : Hp) : Sl → V → Prop
  | .pu x, v => Rep S F x v
  | .ow x, v => ∃ p, v = .ref p ∧ Nw φ ρ F σ p ∧ Top S F H p x
  | _, _ => False
def OS (F : Hp) (D : Ends) : Fl × Rh → Prop
  | (.nx, ρ') => ∀ F' σ' H', Stt S φ ρ' F' σ' H' → Same F F' → D.nx σ' H'
  | (.rt sl, ρ') => ∀ v F' σ' H', Stt S φ ρ' F' σ' H' → Same F F' → RtV S φ ρ' F' σ' H' sl v → D.rt v H'
  | (.bk, ρ') => ∀ F' σ' H', Stt S φ ρ' F' σ' H' → Same F F' → D.bk σ' H'
  | (.ct, ρ') => ∀ F' σ' H', Stt S φ ρ' F' σ' H' → Same F F' → D.ct σ' H'
  | (.ex c, ρ') => ∀ d F' σ' H', Stt S φ ρ' F' σ' H' → Same F F' → W (.ref (S.ca c)) d σ' H'
def tS (f : SS) : TS := fun D σ H => ∃ ρ F r, Stt S φ ρ F σ H ∧ f ρ = some r ∧ OS S φ W F D r
end
theorem OS.up {S : Sg} {φ : Fr} {W : WX} {F F1 : Hp} {D : Ends} {r : Fl × Rh} (o : OS S φ W F D r) (e : Same F F1) : OS S φ W F1 D r := by
  obtain ⟨a, ρ'⟩ := r
  cases a with
  | nx => exact fun F' σ' H' s f => o F' σ' H' s (e.trans f)
  | bk => exact fun F' σ' H' s f => o F' σ' H' s (e.trans f)
  | ct => exact fun F' σ' H' s f => o F' σ' H' s (e.trans f)
  | rt x => exact fun v F' σ' H' s f => o v F' σ' H' s (e.trans f)
  | ex c => exact fun d F' σ' H' s f => o d F' σ' H' s (e.trans f)
abbrev JS (X : Cx) (S : Sg) (φ : Fr) (W : WX) (e : Stmt) (f : SS) : Prop := PS X e (tS S φ W f)
abbrev JSs (X : Cx) (S : Sg) (φ : Fr) (W : WX) (e : List Stmt) (f : SS) : Prop := PSs X e (tS S φ W f)

def sSeq (f g : SS) : SS := fun ρ => match f ρ with
  | some (.nx, ρ') => g ρ'
  | r => r
def sNx : SS := fun ρ => some (.nx, ρ)
def sBk : SS := fun ρ => some (.bk, ρ)
def sCt : SS := fun ρ => some (.ct, ρ)
/-- an expression's end, then a statement's -/
def sE {α : Type} (f : SM α) (k : α → SS) : SS := fun ρ => match f ρ with
  | some (.ok a, ρ') => k a ρ'
  | some (.ex c, ρ') => some (.ex c, ρ')
  | none => none

section
variable {X : Cx} {S : Sg} {φ : Fr} {W : WX} {st : Stmt} {rest sts : List Stmt} {e a b c : Expr} {f g : SS} {fe fa fb : SE} {t : SM Bool} {pos : Pos}
theorem OS.seqE {α : Type} {m : SM α} {k : α → SS} {ρ : Rh} {F : Hp} {σ : L2.St} {D : Ends} {r : Fl × Rh} (e : sE m k ρ = some r) (o : OS S φ W F D r) :
    ∃ r1, m ρ = some r1 ∧ OG S φ W F σ (fun a ρ1 F1 H1 => ∃ r, k a ρ1 = some r ∧ OS S φ W F1 D r) r1 := by
  unfold sE at e
  cases q : m ρ with
  | none => rw [q] at e; cases e
  | some z =>
    obtain ⟨a, ρ1⟩ := z
    rw [q] at e
    cases a with
    | ok a => exact ⟨_, rfl, fun F' H' s f => ⟨r, e, o.up f⟩⟩
    | ex c =>
      cases e
      exact ⟨_, rfl, fun d F' H' s f => o d F' σ H' s f⟩

theorem js_nil : JSs X S φ W [] sNx := pss_nil.imp fun D σ H ⟨ρ, F, r, s, e1, o⟩ => by
  cases e1
  exact o F σ H s (Same.refl _)
theorem js_cons (h1 : JS X S φ W st f) (h2 : JSs X S φ W rest g) : JSs X S φ W (st :: rest) (sSeq f g) := (pss_cons h1 h2).imp fun D σ H ⟨ρ, F, r, s, e1, o⟩ => by
  unfold sSeq at e1
  cases q : f ρ with
  | none => rw [q] at e1; cases e1
  | some z =>
    obtain ⟨a, ρ1⟩ := z
    rw [q] at e1
    refine ⟨ρ, F, _, s, q, ?_⟩
    cases a with
    | nx => exact fun F' σ' H' s' m => ⟨ρ1, F', r, s', e1, o.up m⟩
    | bk => cases e1; exact o
    | ct => cases e1; exact o
    | rt x => cases e1; exact o
    | ex c => cases e1; exact o
theorem js_one (h1 : JS X S φ W st f) : JSs X S φ W [st] f := pss_one h1
theorem js_pass : JS X S φ W (.Pass pos) sNx := ps_pass.imp fun D σ H ⟨ρ, F, r, s, e1, o⟩ => by
  cases e1
  exact o F σ H s (Same.refl _)
theorem js_break : JS X S φ W (.Break pos) sBk := ps_break.imp fun D σ H ⟨ρ, F, r, s, e1, o⟩ => by
  cases e1
  exact o F σ H s (Same.refl _)
theorem js_continue : JS X S φ W (.Continue pos) sCt := ps_continue.imp fun D σ H ⟨ρ, F, r, s, e1, o⟩ => by
  cases e1
  exact o F σ H s (Same.refl _)
/-- an expression whose value is dropped -/
def sDo (fe : SE) : SS := sE fe fun _ ρ => some (.nx, ρ)
theorem js_do (he : JE X S φ W e fe) (hs : swapsWith e none pos.line X.env = pure false := by rfl) : JS X S φ W (.Expr e pos) (sDo fe) := (ps_expr he hs).imp fun D σ H ⟨ρ, F, r, s, e1, o⟩ => by
  obtain ⟨r1, e2, o2⟩ := OS.seqE (σ := σ) e1 o
  refine ⟨ρ, F, r1, s, e2, o2.imp fun x ρ1 F1 H1 s1 m1 ⟨r2, e3, o3⟩ v hv => ?_⟩
  cases e3
  exact o3 F1 σ H1 s1 (Same.refl _)
def sRet (fe : SE) : SS := sE fe fun x ρ => some (.rt (.pu x), ρ)
theorem js_ret (he : JE X S φ W e fe) : JS X S φ W (.Return (some e) pos) (sRet fe) := (ps_ret he).imp fun D σ H ⟨ρ, F, r, s, e1, o⟩ => by
  obtain ⟨r1, e2, o2⟩ := OS.seqE (σ := σ) e1 o
  refine ⟨ρ, F, r1, s, e2, o2.imp fun x ρ1 F1 H1 s1 m1 ⟨r2, e3, o3⟩ v hv => ?_⟩
  cases e3
  exact o3 v F1 σ H1 s1 (Same.refl _) hv
def sRetN : SS := fun ρ => some (.rt (.pu .non), ρ)
theorem js_retN : JS X S φ W (.Return none pos) sRetN := ps_retN.imp fun D σ H ⟨ρ, F, r, s, e1, o⟩ => by
  cases e1
  exact o .non F σ H s (Same.refl _) rfl
/-- a new object is given back -/
def sRetW (fe : SE) : SS := sE fe fun x ρ => some (.rt (.ow x), ρ)
theorem js_retW (he : JN X S φ W e fe) : JS X S φ W (.Return (some e) pos) (sRetW fe) := (ps_ret he).imp fun D σ H ⟨ρ, F, r, s, e1, o⟩ => by
  obtain ⟨r1, e2, o2⟩ := OS.seqE (σ := σ) e1 o
  refine ⟨ρ, F, r1, s, e2, o2.imp fun x ρ1 F1 H1 s1 m1 ⟨r2, e3, o3⟩ p nw tp => ?_⟩
  cases e3
  exact o3 _ F1 σ H1 s1 (Same.refl _) ⟨p, rfl, nw, tp⟩
/-- .. that a name holds -/
def sRetV (i : Nat) : SS := fun ρ => match ρ[i]? with
  | some (.ow x) => some (.rt (.ow x), ρ.set i .un)
  | _ => none
theorem js_retV (i : Nat) {x : Str} {pos' : Pos} (hN : X.N[i]? = some x := by rfl) (hv : Vis X.env.scope x := by first | exact Or.inl rfl | exact Or.inr (Or.inl rfl) | exact Or.inr (Or.inr rfl)) (hd : (x == ("__debug__" : Str)) = false := by decide)
    (hcd : (x == ("__classdict__" : Str)) = false := by decide) : JS X S φ W (.Return (some (.Name x pos')) pos) (sRetV i) := (ps_ret (pe_var hN hv hd hcd)).imp fun D σ H ⟨ρ, F, r, s, e1, o⟩ => by
  unfold sRetV at e1
  split at e1
  · rename_i y q
    cases e1
    obtain ⟨p, h1, h2, h3, h4⟩ := s.slot i _ q
    have lt : i < ρ.length := (List.getElem?_eq_some_iff.mp q).1
    refine ⟨_, h1, o _ F σ H s.forget (Same.refl _) ⟨p, rfl, ⟨h2, h3, fun j t z a b c => ?_⟩, h4⟩⟩
    by_cases w : i = j
    · subst w
      rw [List.getElem?_set_self lt] at a
      cases a
      cases b
    · rw [List.getElem?_set_ne w] at a
      exact w (s.sep i j _ t y z p q a (.ow y) b h1 c)
  · cases e1
def sIf (t : SM Bool) (f g : SS) : SS := sE t fun b => if b = true then f else g
theorem js_if (hc : JT X S φ W c t) (ha : JSs X S φ W sts f) (hb : JSs X S φ W rest g) : JS X S φ W (.If c sts rest pos) (sIf t f g) := (ps_if hc ha hb).imp fun D σ H ⟨ρ, F, r, s, e1, o⟩ => by
  obtain ⟨r1, e2, o2⟩ := OS.seqE (σ := σ) e1 o
  refine ⟨ρ, F, r1, s, e2, o2.imp fun k ρ1 F1 H1 s1 m1 ⟨r2, e3, o3⟩ => ?_⟩
  cases k with
  | true => exact iteT ⟨ρ1, F1, r2, s1, e3, o3⟩
  | false => exact iteF ⟨ρ1, F1, r2, s1, e3, o3⟩

/-! ### targets -/
/-- a target takes a frozen value -/
abbrev GM := PV → Rh → Option Rh
/-- only the slots at is have changed -/
def Chg (is : List Nat) (σ σ' : L2.St) : Prop := σ'.length = σ.length ∧ ∀ j, j ∉ is → σ'[j]? = σ[j]?
theorem Chg.refl {is : List Nat} {σ : L2.St} : Chg is σ σ := ⟨rfl, fun _ _ => rfl⟩
theorem Chg.trans {is : List Nat} {σ σ1 σ2 : L2.St} (a : Chg is σ σ1) (b : Chg is σ1 σ2) : Chg is σ σ2 := ⟨b.1.trans a.1, fun j h => (b.2 j h).trans (a.2 j h)⟩
theorem Chg.mono {is js : List Nat} {σ σ1 : L2.St} (a : Chg is σ σ1) (h : ∀ i, i ∈ is → i ∈ js) : Chg js σ σ1 := ⟨a.1, fun j q => a.2 j fun z => q (h j z)⟩
def gJ (S : Sg) (φ : Fr) (g : GM) (is : List Nat) : TG := fun v σ H Q => ∃ x ρ F ρ', Stt S φ ρ F σ H ∧ Rep S F x v ∧ g x ρ = some ρ' ∧ ∀ σ', Stt S φ ρ' F σ' H → Chg is σ σ' → Q σ' H
abbrev JG (X : Cx) (S : Sg) (φ : Fr) (e : Expr) (g : GM) (is : List Nat) : Prop := PG X e (gJ S φ g is)
def gN (i : Nat) : GM := fun x ρ => match ρ[i]? with
  | some (.io _) => none
  | some _ => some (ρ.set i (.pu x))
  | none => none
theorem jg_n {i : Nat} {x : Str} (hN : X.N.Nodup) (hi : X.N[i]? = some x := by rfl) (hx : Loc X.env.scope x := by first | exact Or.inl rfl | exact Or.inr rfl) (hf : X.fn x = true ∨ X.env.scope.names.lookup x = some .local := by first | exact .inl rfl | exact .inr rfl | assumption) :
    JG X S φ (.Name x pos) (gN i) [i] := L2.PG.imp (pg_name hN hi hx hf) fun v σ H Q ⟨x, ρ, F, ρ', s, rx, e, q⟩ => by
  unfold gN at e
  split at e
  · cases e
  · cases e
    exact q _ (s.setPu rx) ⟨by simp, fun j h => List.getElem?_set_ne fun z => h (by rw [z]; exact List.mem_singleton.mpr rfl)⟩
  · cases e
/-- (a, b, ..) = a tuple -/
def gJs (S : Sg) (φ : Fr) (g : List PV → Rh → Option Rh) (is : List Nat) : TGs := fun vs σ H Q => ∃ xs ρ F ρ', Stt S φ ρ F σ H ∧ Reps S F xs vs ∧ g xs ρ = some ρ' ∧ ∀ σ', Stt S φ ρ' F σ' H → Chg is σ σ' → Q σ' H
abbrev JGs (X : Cx) (S : Sg) (φ : Fr) (es : List Expr) (g : List PV → Rh → Option Rh) (is : List Nat) : Prop := PGs X es (gJs S φ g is)
def gsNil : List PV → Rh → Option Rh := fun xs ρ => match xs with
  | [] => some ρ
  | _ => none
def gsCons (g : GM) (gs : List PV → Rh → Option Rh) : List PV → Rh → Option Rh := fun xs ρ => match xs with
  | [] => none
  | x :: r => match g x ρ with
    | some ρ' => gs r ρ'
    | none => none
theorem jgs_nil : JGs X S φ [] gsNil [] := L2.PGs.imp pgs_nil fun vs σ H Q ⟨xs, ρ, F, ρ', s, rx, e, q⟩ => by
  cases xs with
  | nil =>
    cases e
    exact ⟨rx, q _ s Chg.refl⟩
  | cons _ _ => cases e
theorem jgs_cons {es : List Expr} {g : GM} {gs : List PV → Rh → Option Rh} {is js : List Nat} (h1 : JG X S φ e g is) (h2 : JGs X S φ es gs js) (hs : (assignEach (e :: es) X.env).map (·.2) = assign e X.env :: (assignEach es X.env).map (·.2) := by rfl) : JGs X S φ (e :: es) (gsCons g gs) (is ++ js) :=
  L2.PGs.imp (pgs_cons h1 h2 hs) fun vs σ H Q ⟨xs, ρ, F, ρ', s, rx, e, q⟩ => by
    cases xs with
    | nil => cases e
    | cons x r =>
      obtain ⟨v, vr, rfl, h3, h4⟩ := rx
      unfold gsCons at e
      dsimp only at e
      split at e
      · rename_i ρ1 q1
        exact ⟨v, vr, rfl, x, ρ, F, ρ1, s, h3, q1, fun σ1 s1 c1 => ⟨r, ρ1, F, ρ', s1, h4, e, fun σ2 s2 c2 => q σ2 s2 ((c1.mono fun _ z => List.mem_append_left _ z).trans (c2.mono fun _ z => List.mem_append_right _ z))⟩⟩
      · cases e
def gT (gs : List PV → Rh → Option Rh) : GM := fun x ρ => match x with
  | .tup xs => gs xs ρ
  | _ => none
theorem jg_t {es : List Expr} {k n : Nat} {gs : List PV → Rh → Option Rh} {is : List Nat} (hc : X.calm = true) (hK : X.K = S.K) (h : JGs X S φ es gs is) (hl : ∀ xs ρ ρ', gs xs ρ = some ρ' → xs.length = n) (hn : (assignEach es X.env).length = n := by rfl)
    (hst : (assignEach es X.env).findIdx? (·.1) = none := by rfl) : JG X S φ (.Tuple es k pos) (gT gs) is := L2.PG.imp (pg_tup hc h hn hst) fun v σ H Q ⟨x, ρ, F, ρ', s, rx, e, q⟩ => by
  cases x with
  | tup xs =>
    obtain ⟨a, vs, rfl, h1, h2⟩ := rx
    refine ⟨a, vs, rfl, by rw [hK]; exact SqT.same s.same h1, ?_, xs, ρ, F, ρ', s, h2, e, q⟩
    rw [← Reps.length h2]
    exact hl xs ρ ρ' e
  | _ => cases e
theorem gs2_len {g1 g2 : GM} : ∀ xs ρ ρ', gsCons g1 (gsCons g2 gsNil) xs ρ = some ρ' → xs.length = 2 := fun xs ρ ρ' e => by
  cases xs with
  | nil => cases e
  | cons x r =>
    unfold gsCons at e
    dsimp only at e
    split at e
    · cases r with
      | nil => cases e
      | cons y r =>
        dsimp only at e
        split at e
        · cases r with
          | nil => rfl
          | cons _ _ => cases e
        · cases e
    · cases e
theorem gs3_len {g1 g2 g3 : GM} : ∀ xs ρ ρ', gsCons g1 (gsCons g2 (gsCons g3 gsNil)) xs ρ = some ρ' → xs.length = 3 := fun xs ρ ρ' e => by
  cases xs with
  | nil => cases e
  | cons x r =>
    unfold gsCons at e
    dsimp only at e
    split at e
    · have := gs2_len r _ _ e
      simp [this]
    · cases e

/-! ### assignments -/
def sSet (g : GM) (fe : SE) : SS := sE fe fun x ρ => match g x ρ with
  | some ρ' => some (.nx, ρ')
  | none => none
/-- name = e -/
theorem js_set (i : Nat) {x : Str} {pos' : Pos} (hN : X.N.Nodup) (he : JE X S φ W e fe) (hi : X.N[i]? = some x := by rfl) (hx : Loc X.env.scope x := by first | exact Or.inl rfl | exact Or.inr rfl) (hs : swapsWith e (some (.Name x pos')) pos.line X.env = pure false := by rfl)
    (hf : X.fn x = true ∨ X.env.scope.names.lookup x = some .local := by first | exact .inl rfl | exact .inr rfl | assumption) : JS X S φ W (.Assign [.Name x pos'] e pos) (sSet (gN i) fe) := (ps_set hN hi hx he hs hf).imp fun D σ H ⟨ρ, F, r, s, e1, o⟩ => by
  obtain ⟨r1, e2, o2⟩ := OS.seqE (σ := σ) e1 o
  refine ⟨ρ, F, r1, s, e2, o2.imp fun x ρ1 F1 H1 s1 m1 ⟨r2, e3, o3⟩ v hv => ?_⟩
  split at e3
  · rename_i ρ2 q
    cases e3
    unfold gN at q
    split at q
    · cases q
    · cases q
      exact o3 F1 _ H1 (s1.setPu hv) (Same.refl _)
    · cases q
  · cases e3
/-- name = a new object, which the name holds -/
def gW (i : Nat) : GM := fun x ρ => match ρ[i]? with
  | some (.io _) => none
  | some _ => some (ρ.set i (.ow x))
  | none => none
theorem js_setW (i : Nat) {x : Str} {pos' : Pos} (hN : X.N.Nodup) (he : JN X S φ W e fe) (hi : X.N[i]? = some x := by rfl) (hx : Loc X.env.scope x := by first | exact Or.inl rfl | exact Or.inr rfl) (hs : swapsWith e (some (.Name x pos')) pos.line X.env = pure false := by rfl)
    (hf : X.fn x = true ∨ X.env.scope.names.lookup x = some .local := by first | exact .inl rfl | exact .inr rfl | assumption) : JS X S φ W (.Assign [.Name x pos'] e pos) (sSet (gW i) fe) := (ps_set hN hi hx he hs hf).imp fun D σ H ⟨ρ, F, r, s, e1, o⟩ => by
  obtain ⟨r1, e2, o2⟩ := OS.seqE (σ := σ) e1 o
  refine ⟨ρ, F, r1, s, e2, o2.imp fun x ρ1 F1 H1 s1 m1 ⟨r2, e3, o3⟩ p nw tp => ?_⟩
  split at e3
  · rename_i ρ2 q
    cases e3
    unfold gW at q
    split at q
    · cases q
    · cases q
      exact o3 F1 _ H1 (s1.setOw nw.f nw.h tp nw.no) (Same.refl _)
    · cases q
  · cases e3
/-- any target = e -/
theorem js_asg {tg : Expr} {gm : GM} {is : List Nat} (he : JE X S φ W e fe) (hg : JG X S φ tg gm is) (hs : swapsWithSole [tg] e pos.line X.env = pure false := by rfl) (hw : swappedStores [tg] e X.env = pure none := by rfl)
    (h1 : (assignEach [tg] X.env).map (·.2) = [assign tg X.env] := by rfl) : JS X S φ W (.Assign [tg] e pos) (sSet gm fe) := (ps_asg he hg hs hw h1).imp fun D σ H ⟨ρ, F, r, s, e1, o⟩ => by
  obtain ⟨r1, e2, o2⟩ := OS.seqE (σ := σ) e1 o
  refine ⟨ρ, F, r1, s, e2, o2.imp fun x ρ1 F1 H1 s1 m1 ⟨r2, e3, o3⟩ v hv => ?_⟩
  split at e3
  · rename_i ρ2 q
    cases e3
    exact ⟨x, ρ1, F1, ρ2, s1, hv, q, fun σ' s' _ => o3 F1 σ' H1 s' (Same.refl _)⟩
  · cases e3

/-! ### while -/
def whileL (t : SM Bool) (b : SS) : Nat → SS
  | 0 => fun _ => none
  | n + 1 => fun ρ => match t ρ with
    | some (.ok true, ρ1) => (match b ρ1 with
      | some (.nx, ρ2) => whileL t b n ρ2
      | some (.ct, ρ2) => whileL t b n ρ2
      | some (.bk, ρ2) => some (.nx, ρ2)
      | r => r)
    | some (.ok false, ρ1) => some (.nx, ρ1)
    | some (.ex c, ρ1) => some (.ex c, ρ1)
    | none => none
/-- with so many turns at most -/
def sWhile (n : Rh → Nat) (t : SM Bool) (b : SS) : SS := fun ρ => whileL t b (n ρ) ρ
theorem js_while (n : Rh → Nat) (hp : PassesOwn (model X.prog X.w) X.A X.env X.xe) (hc : JT X S φ W c t) (hb : JSs X S φ W sts f) : JS X S φ W (.While c sts [] pos) (sWhile n t f) := (ps_while hp hc hb).imp fun D σ H ⟨ρ, F, r, s, e1, o⟩ => by
  refine ⟨fun m σ H => ∃ ρ F r, Stt S φ ρ F σ H ∧ whileL t f m ρ = some r ∧ OS S φ W F D r, ⟨_, ρ, F, r, s, e1, o⟩, ?_⟩
  rintro m σ H ⟨ρ, F, r, s, e1, o⟩
  cases m with
  | zero => cases e1
  | succ m =>
    unfold whileL at e1
    cases q : t ρ with
    | none => rw [q] at e1; cases e1
    | some z =>
      obtain ⟨k, ρ1⟩ := z
      rw [q] at e1
      refine ⟨ρ, F, _, s, q, ?_⟩
      cases k with
      | ex c =>
        cases e1
        exact fun d F' H' s' m' => o d F' σ H' s' m'
      | ok k =>
        intro F1 H1 s1 m1
        cases k with
        | false =>
          cases e1
          exact iteF (o F1 σ H1 s1 m1)
        | true =>
          refine iteT ⟨fun σ H => ∃ ρ F r, Stt S φ ρ F σ H ∧ whileL t f m ρ = some r ∧ OS S φ W F D r, fun σ' H' h => ⟨m, Nat.lt_succ_self m, h⟩, ?_⟩
          dsimp only at e1
          cases q2 : f ρ1 with
          | none => rw [q2] at e1; cases e1
          | some z =>
            obtain ⟨k, ρ2⟩ := z
            rw [q2] at e1
            refine ⟨ρ1, F1, _, s1, q2, ?_⟩
            cases k with
            | nx => exact fun F' σ' H' s' m' => ⟨ρ2, F', r, s', e1, o.up (m1.trans m')⟩
            | ct => exact fun F' σ' H' s' m' => ⟨ρ2, F', r, s', e1, o.up (m1.trans m')⟩
            | bk => cases e1; exact fun F' σ' H' s' m' => o F' σ' H' s' (m1.trans m')
            | rt x => cases e1; exact fun v F' σ' H' s' m' => o v F' σ' H' s' (m1.trans m')
            | ex c => cases e1; exact fun d F' σ' H' s' m' => o d F' σ' H' s' (m1.trans m')

/-! ### what is walked -/
/-- J walks the values xs, as they are in the frozen heap F0 -/
structure Wk (S : Sg) (F0 : Hp) (xs : List PV) (J : It) : Prop where
  go : ∀ i H, Same F0 H → i < xs.length → J.go i H
  stop : ∀ i H, Same F0 H → xs.length ≤ i → J.stop i H
  yld : ∀ i F H v H', Same F0 F → Same F H → i < xs.length → J.yld i H v H' → ∃ x F', xs[i]? = some x ∧ Gw F H F' H' ∧ Rep S F' x v
def iJ (S : Sg) (φ : Fr) (W : WX) (f : SM (List PV)) : TI := fun σ H R => ∃ ρ F r, Stt S φ ρ F σ H ∧ f ρ = some r ∧ OG S φ W F σ (fun xs ρ' F' H' => ∀ J, Wk S F' xs J → R J H') r
abbrev JI (X : Cx) (S : Sg) (φ : Fr) (W : WX) (tg e : Expr) (f : SM (List PV)) : Prop := PI X tg e (iJ S φ W f)
theorem _root_.L2.PI.imp {X : Cx} {tg e : Expr} {t t' : TI} (h : PI X tg e t) (i : ∀ σ H R, t' σ H R → t σ H R) : PI X tg e t' := ⟨fun pins s σ H R I q => h.run pins s σ H R I (i σ H R q)⟩
theorem wk_list {F : Hp} {xs : List PV} {p : Addr} {vs : List V} (h : SqL S.K F p vs) (r : Reps S F xs vs) : Wk S F xs (Itl S.K p) where
  go := fun i H s hi => by
    have hv : i < vs.length := by rw [← r.length]; exact hi
    exact ⟨vs, vs[i], SqL.same s h, by simp [hv]⟩
  stop := fun i H s hi => ⟨vs, SqL.same s h, by rw [← r.length]; exact hi⟩
  yld := fun i F1 H v H' s1 s2 hi ⟨e, q⟩ => by
    subst e
    have hv := q vs (SqL.same (s1.trans s2) h)
    obtain ⟨x, h1, h2⟩ := r.getV hv
    exact ⟨x, F1, h1, Gw.rfl' s2, Rep.mono s1 _ _ h2⟩
theorem wk_tup {F : Hp} {xs : List PV} {p : Addr} {vs : List V} (h : SqT S.K F p vs) (r : Reps S F xs vs) : Wk S F xs (Itt S.K p) where
  go := fun i H s hi => by
    have hv : i < vs.length := by rw [← r.length]; exact hi
    exact ⟨vs, vs[i], SqT.same s h, by simp [hv]⟩
  stop := fun i H s hi => ⟨vs, SqT.same s h, by rw [← r.length]; exact hi⟩
  yld := fun i F1 H v H' s1 s2 hi ⟨e, q⟩ => by
    subst e
    have hv := q vs (SqT.same (s1.trans s2) h)
    obtain ⟨x, h1, h2⟩ := r.getV hv
    exact ⟨x, F1, h1, Gw.rfl' s2, Rep.mono s1 _ _ h2⟩
/-- over a list -/
def iL (f : SE) : SM (List PV) := f.bind fun x => fun ρ => match x with
  | .lst xs => some (.ok xs, ρ)
  | _ => none
theorem ji_list {tg : Expr} (hK : X.K = S.K) (h : JE X S φ W e fe) : JI X S φ W tg e (iL fe) := (pi_list h).imp fun σ H R ⟨ρ, F, r, s, e1, o⟩ => by
  obtain ⟨r1, e2, o2⟩ := OG.seq e1 o
  refine ⟨ρ, F, r1, s, e2, o2.imp fun x ρ1 F1 H1 s1 m1 ⟨r2, e3, o3⟩ v hv => ?_⟩
  cases x with
  | lst xs =>
    cases e3
    obtain ⟨p, vs, rfl, h1, h2⟩ := hv
    refine ⟨p, rfl, ⟨vs, hK.symm ▸ SqL.same s1.same h1⟩, ?_⟩
    rw [hK]
    exact o3 F1 H1 s1 (Same.refl _) _ (wk_list h1 h2)
  | _ => cases e3
def iTu (f : SE) : SM (List PV) := f.bind fun x => fun ρ => match x with
  | .tup xs => some (.ok xs, ρ)
  | _ => none
theorem ji_tup {tg : Expr} (hK : X.K = S.K) (h : JE X S φ W e fe) : JI X S φ W tg e (iTu fe) := (pi_tup h).imp fun σ H R ⟨ρ, F, r, s, e1, o⟩ => by
  obtain ⟨r1, e2, o2⟩ := OG.seq e1 o
  refine ⟨ρ, F, r1, s, e2, o2.imp fun x ρ1 F1 H1 s1 m1 ⟨r2, e3, o3⟩ v hv => ?_⟩
  cases x with
  | tup xs =>
    cases e3
    obtain ⟨p, vs, rfl, h1, h2⟩ := hv
    refine ⟨p, rfl, ⟨vs, by rw [hK]; exact SqT.same s1.same h1⟩, ?_⟩
    rw [hK]
    exact o3 F1 H1 s1 (Same.refl _) _ (wk_tup h1 h2)
  | _ => cases e3

/-! ### for -/
def wipe1 (ρ : Rh) (i : Nat) : Rh := match ρ[i]? with
  | some (.io _) => ρ
  | _ => ρ.set i .un
def wipeR (fg : List Nat) (ρ : Rh) : Rh := fg.foldl wipe1 ρ
theorem Stt.wipeR {σ : L2.St} {F H : Hp} : ∀ (fg : List Nat) {ρ : Rh}, Stt S φ ρ F σ H → Stt S φ (Y.wipeR fg ρ) F σ H
  | [], ρ, s => s
  | i :: fg, ρ, s => by
    show Stt S φ (Y.wipeR fg _) F σ H
    refine Stt.wipeR fg ?_
    show Stt S φ (wipe1 ρ i) F σ H
    unfold wipe1
    split
    · exact s
    · exact s.forget
/-- over the values: the target, the body; at the end of a turn the slots fg are forgotten -/
def forL (gm : GM) (b : SS) (fg : List Nat) : List PV → SS
  | [] => fun ρ => some (.nx, ρ)
  | x :: xs => fun ρ => match gm x ρ with
    | none => none
    | some ρ1 => (match b ρ1 with
      | some (.nx, ρ2) => forL gm b fg xs (wipeR fg ρ2)
      | some (.ct, ρ2) => forL gm b fg xs (wipeR fg ρ2)
      | some (.bk, ρ2) => some (.nx, ρ2)
      | r => r)
def sFor (it : SM (List PV)) (gm : GM) (b : SS) (fg : List Nat) : SS := sE it fun xs ρ => forL gm b fg xs (wipeR fg ρ)
theorem for_wk {is : List Nat} {F0 : Hp} {xs : List PV} {J : It} (wk : Wk S F0 xs J) {gm : GM} {fg : List Nat} {D : Ends} {σ : L2.St} {H F : Hp} {ρ : Rh} {r : Fl × Rh} (s : Stt S φ ρ F σ H) (m : Same F0 F) (e : forL gm f fg xs ρ = some r) (o : OS S φ W F D r) :
    ∃ W' : Nat → Nat → L2.St → Hp → Prop, (∃ m, W' 0 m σ H) ∧ ∀ i m σ H, W' i m σ H →
      (J.stop i H ∧ D.nx σ H) ∨ (J.go i H ∧ ∃ N : L2.St → Hp → Prop, (∀ σ' H', N σ' H' → ∃ m', m' < m ∧ W' (i + 1) m' σ' H') ∧ ∀ x H', J.yld i H x H' → gJ S φ gm is x σ H' fun σ2 H2 => tS S φ W f { D with nx := N, ct := N, bk := D.nx } σ2 H2) := by
  let P : Nat → L2.St → Hp → Prop := fun i σ H => i ≤ xs.length ∧ ∃ ρ F r, Stt S φ ρ F σ H ∧ Same F0 F ∧ forL gm f fg (xs.drop i) ρ = some r ∧ OS S φ W F D r
  refine ⟨fun i m σ H => m = xs.length - i ∧ P i σ H, ⟨xs.length, by simp, Nat.zero_le _, ρ, F, r, s, m, e, o⟩, ?_⟩
  rintro i m σ H ⟨rfl, hi, ρ, F, r, s, m, e, o⟩
  by_cases hlt : i < xs.length
  · refine .inr ⟨wk.go i H (m.trans s.same) hlt, P (i + 1), fun σ' H' h => ⟨xs.length - (i + 1), by omega, rfl, h⟩, fun v H' y => ?_⟩
    obtain ⟨x, F', hx, gw, rx⟩ := wk.yld i F H v H' m s.same hlt y
    have ex : xs.drop i = x :: xs.drop (i + 1) := by
      obtain ⟨h1, h2⟩ := List.getElem?_eq_some_iff.mp hx
      rw [List.drop_eq_getElem_cons h1, h2]
    rw [ex] at e
    unfold forL at e
    cases q : gm x ρ with
    | none => rw [q] at e; cases e
    | some ρ1 =>
      rw [q] at e
      refine ⟨x, ρ, F', ρ1, s.grow gw, rx, q, fun σ1 s1 _ => ?_⟩
      dsimp only at e
      cases q2 : f ρ1 with
      | none => rw [q2] at e; cases e
      | some z =>
        obtain ⟨k, ρ2⟩ := z
        rw [q2] at e
        refine ⟨ρ1, F', _, s1, q2, ?_⟩
        cases k with
        | nx => exact fun F2 σ2 H2 s2 m2 => ⟨hlt, _, F2, r, Stt.wipeR fg s2, (m.trans gw.f).trans m2, e, o.up (gw.f.trans m2)⟩
        | ct => exact fun F2 σ2 H2 s2 m2 => ⟨hlt, _, F2, r, Stt.wipeR fg s2, (m.trans gw.f).trans m2, e, o.up (gw.f.trans m2)⟩
        | bk => cases e; exact fun F2 σ2 H2 s2 m2 => o F2 σ2 H2 s2 (gw.f.trans m2)
        | rt x => cases e; exact fun v F2 σ2 H2 s2 m2 => o v F2 σ2 H2 s2 (gw.f.trans m2)
        | ex c => cases e; exact fun d F2 σ2 H2 s2 m2 => o d F2 σ2 H2 s2 (gw.f.trans m2)
  · have ei : i = xs.length := by omega
    subst ei
    rw [List.drop_length] at e
    cases e
    exact .inl ⟨wk.stop _ H (m.trans s.same) (Nat.le_refl _), o F σ H s (Same.refl _)⟩
theorem js_for (fg : List Nat) {iter tg : Expr} {it : SM (List PV)} {gm : GM} {is : List Nat} (hp : PassesOwn (model X.prog X.w) X.A X.env X.xe) (hc : X.calm = true) (hi : JI X S φ W tg iter it) (hg : JG X S φ tg gm is) (hb : JSs X S φ W sts f)
    (hs : ∀ x, foldedSetIterable iter X.env x = pure x := by intro _; rfl) : JS X S φ W (.For tg iter sts [] pos) (sFor it gm f fg) := (ps_for hp hc hi hg hb hs).imp fun D σ H ⟨ρ, F, r, s, e1, o⟩ => by
  obtain ⟨r1, e2, o2⟩ := OS.seqE (σ := σ) e1 o
  refine ⟨ρ, F, r1, s, e2, o2.imp fun xs ρ1 F1 H1 s1 m1 ⟨r2, e3, o3⟩ J wk => ?_⟩
  exact for_wk wk (Stt.wipeR fg s1) (Same.refl _) e3 o3
end
end Y

/-! Y4: defs, their meaning, calls. -/
namespace Y
open PySem PySem.Spec L2
open PyProof.Rows (envOfC)

/-- what a def does: its arguments (values, objects that it may write), its answer, the arguments behind it -/
abbrev Fn := List Sl → Option (Ou Sl × List Sl)

/-! ### arguments -/
section
variable (S : Sg)
def ArgR (F H : Hp) : Sl → V → Prop
  | .pu x, v => Rep S F x v
  | .io x, v => ∃ p, v = .ref p ∧ F p = none ∧ Top S F H p x
  | _, _ => False
def ArgsR (F H : Hp) : List Sl → List V → Prop
  | [], vs => vs = []
  | s :: ss, vs => ∃ v r, vs = v :: r ∧ ArgR S F H s v ∧ ArgsR F H ss r
/-- where the objects are that may be written -/
def pinOf : List Sl → List V → List (Option Addr)
  | .io _ :: ss, .ref p :: vs => some p :: pinOf ss vs
  | _ :: ss, _ :: vs => none :: pinOf ss vs
  | _, _ => []
def Apart (pin : List (Option Addr)) : Prop := ∀ (i j : Nat) (p : Addr), pin[i]? = some (some p) → pin[j]? = some (some p) → i = j
/-- behind a call -/
structure Aft (φ : Fr) (F' H' : Hp) (args' : List Sl) : Prop where
  f : Same φ.F F'
  fh : Same F' H'
  k1 : ∀ a o, φ.H a = some o → a ∉ φ.own → H' a = some o
  k2 : ∀ a, φ.H a ≠ none → φ.F a = none → a ∉ φ.own → F' a = none
  io : ∀ (i : Nat) (p : Addr), φ.pin[i]? = some (some p) → ∃ x, args'[i]? = some (.io x) ∧ F' p = none ∧ Top S F' H' p x
def RetR (φ : Fr) (F' H' : Hp) : Sl → V → Prop
  | .pu x, v => Rep S F' x v
  | .ow x, v => ∃ p, v = .ref p ∧ F' p = none ∧ φ.H p = none ∧ Top S F' H' p x
  | _, _ => False
def spOf (g : Fn) : Sp := fun vs H Q E => ∃ F args r, Same F H ∧ ArgsR S F H args vs ∧ Apart (pinOf args vs) ∧ g args = some r ∧ (match r with
  | (.ok sl, args') => ∀ v F' H', Aft S ⟨F, H, pinOf args vs⟩ F' H' args' → RetR S ⟨F, H, pinOf args vs⟩ F' H' sl v → Q v H'
  | (.ex c, args') => ∀ d F' H', Aft S ⟨F, H, pinOf args vs⟩ F' H' args' → E (.ref (S.ca c)) d H')
end
section
variable {S : Sg} {F H : Hp}
theorem ArgsR.len : ∀ {ss : List Sl} {vs : List V}, ArgsR S F H ss vs → ss.length = vs.length
  | [], vs, h => by
    have h : vs = [] := h
    rw [h] <;> rfl
  | s :: ss, vs, h => by
    obtain ⟨v, r, rfl, _, h3⟩ := h
    have := ArgsR.len h3
    simp [this]
theorem ArgsR.get : ∀ {ss : List Sl} {vs : List V} {i : Nat} {s : Sl}, ArgsR S F H ss vs → ss[i]? = some s → ∃ v, vs[i]? = some v ∧ ArgR S F H s v
  | [], _, _, _, _, e => by simp at e
  | y :: ys, vs, 0, x, h, e => by
    obtain ⟨v, r, rfl, h2, _⟩ := h
    simp at e
    subst e
    exact ⟨v, rfl, h2⟩
  | y :: ys, vs, i + 1, x, h, e => by
    obtain ⟨v, r, rfl, _, h3⟩ := h
    simp at e
    obtain ⟨w, e2, h4⟩ := ArgsR.get h3 e
    exact ⟨w, by simpa using e2, h4⟩
theorem pinOf_get : ∀ {ss : List Sl} {vs : List V} {i : Nat} {p : Addr}, (pinOf ss vs)[i]? = some (some p) → ∃ x, ss[i]? = some (.io x) ∧ vs[i]? = some (.ref p)
  | [], vs, i, p, e => by
    unfold pinOf at e
    simp at e
  | s :: ss, [], i, p, e => by
    unfold pinOf at e
    cases s <;> simp at e
  | s :: ss, v :: vs, 0, p, e => by
    cases s with
    | io x =>
      cases v with
      | ref q =>
        simp [pinOf] at e
        subst e
        exact ⟨x, rfl, rfl⟩
      | _ => simp [pinOf] at e
    | _ => simp [pinOf] at e
  | s :: ss, v :: vs, i + 1, p, e => by
    have e2 : (pinOf ss vs)[i]? = some (some p) := by
      cases s <;> cases v <;> simpa [pinOf] using e
    obtain ⟨x, h1, h2⟩ := pinOf_get e2
    exact ⟨x, by simpa using h1, by simpa using h2⟩
theorem pinOf_io : ∀ {ss : List Sl} {vs : List V} {i : Nat} {p : Addr} {x : PV}, ss[i]? = some (.io x) → vs[i]? = some (.ref p) → ss.length = vs.length → (pinOf ss vs)[i]? = some (some p)
  | [], vs, i, p, x, e, _, _ => by simp at e
  | s :: ss, [], i, p, x, _, e, _ => by simp at e
  | s :: ss, v :: vs, 0, p, x, e1, e2, _ => by
    simp at e1 e2
    subst e1 e2
    rfl
  | s :: ss, v :: vs, i + 1, p, x, e1, e2, hl => by
    have q := pinOf_io (ss := ss) (vs := vs) (i := i) (p := p) (x := x) (by simpa using e1) (by simpa using e2) (by simpa using hl)
    cases s <;> cases v <;> simpa [pinOf] using q
end

/-! ### a def's meaning -/
/-- the objects that were handed in to be written are still held -/
def chk : List Sl → Rh → Bool
  | [], _ => true
  | .io _ :: as, .io _ :: bs => chk as bs
  | .io _ :: _, _ => false
  | _ :: as, _ :: bs => chk as bs
  | _ :: _, [] => false
theorem chk_io : ∀ {as : List Sl} {bs : Rh} {i : Nat} {x : PV}, chk as bs = true → as[i]? = some (.io x) → ∃ y, bs[i]? = some (.io y) ∧ i < as.length
  | [], _, _, _, _, e => by simp at e
  | a :: as, bs, 0, x, h, e => by
    simp at e
    subst e
    cases bs with
    | nil => cases h
    | cons b bs => cases b <;> first | cases h | exact ⟨_, rfl, by simp⟩
  | a :: as, bs, i + 1, x, h, e => by
    cases bs with
    | nil => cases a <;> cases h
    | cons b bs =>
      have h2 : chk as bs = true := by
        cases a with
        | io z => cases b <;> first | cases h | exact h
        | _ => exact h
      obtain ⟨y, q, l⟩ := chk_io h2 (by simpa using e)
      exact ⟨y, by simpa using q, by simpa using l⟩
/-- what is left of the arguments: the objects that were written, the others as they were -/
def outs : List Sl → Rh → List Sl
  | [], _ => []
  | .io x :: as, bs => bs.head?.getD (.io x) :: outs as bs.tail
  | a :: as, bs => a :: outs as bs.tail
theorem outs_io : ∀ {as : List Sl} {bs : Rh} {i : Nat} {x : PV} {b : Sl}, as[i]? = some (.io x) → bs[i]? = some b → (outs as bs)[i]? = some b
  | [], _, _, _, _, e, _ => by simp at e
  | a :: as, bs, 0, x, b, e, q => by
    simp at e
    subst e
    cases bs with
    | nil => simp at q
    | cons c bs => simpa [outs] using q
  | a :: as, bs, i + 1, x, b, e, q => by
    cases bs with
    | nil => simp at q
    | cons c bs =>
      have h := outs_io (as := as) (bs := bs) (i := i) (by simpa using e) (by simpa using q)
      cases a <;> simpa [outs] using h
/-- m parameters, n local names besides -/
def fnOf (m n : Nat) (f : SS) : Fn := fun args => if args.length = m then (match f (args ++ List.replicate n .un) with
  | some (.rt sl, ρ') => if chk args ρ' = true then some (.ok sl, outs args ρ') else none
  | some (.nx, ρ') => if chk args ρ' = true then some (.ok (.pu .non), outs args ρ') else none
  | some (.ex c, ρ') => if chk args ρ' = true then some (.ex c, outs args ρ') else none
  | _ => none) else none

section
variable {S : Sg} {F H : Hp}
theorem stt_start {args : List Sl} {vs : List V} {N : List Str} (s : Same F H) (r : ArgsR S F H args vs) (ap : Apart (pinOf args vs)) (n : Nat) (hn : args.length + n = N.length) :
    Stt S ⟨F, H, pinOf args vs⟩ (args ++ List.replicate n .un) F (start N vs) H := by
  have hl := r.len
  have low : ∀ {i : Nat} {t : Sl}, (args ++ List.replicate n Sl.un)[i]? = some t → (i < args.length ∧ args[i]? = some t) ∨ t = .un := fun {i t} e => by
    by_cases h : i < args.length
    · rw [List.getElem?_append_left h] at e
      exact .inl ⟨h, e⟩
    · rw [List.getElem?_append_right (by omega), List.getElem?_replicate] at e
      split at e
      · cases e; exact .inr rfl
      · cases e
  have at_ : ∀ {i : Nat} {v : V}, vs[i]? = some v → (start N vs)[i]? = some (some v) := fun {i v} e => by
    have hi : i < vs.length := (List.getElem?_eq_some_iff.mp e).1
    unfold L2.start
    rw [List.getElem?_append_left (by simpa using hi), List.getElem?_map, e]
    rfl
  have at2 : ∀ {i : Nat} {v : V}, i < args.length → (start N vs)[i]? = some (some v) → vs[i]? = some v := fun {i v} hi e => by
    have hi : i < vs.length := by omega
    unfold L2.start at e
    rw [List.getElem?_append_left (by simpa using hi), List.getElem?_map] at e
    cases q : vs[i]? with
    | none => rw [q] at e; cases e
    | some w => rw [q] at e; cases e; rfl
  refine ⟨?_, s, Same.refl _, fun a o e _ => e, fun a _ e _ => e, fun p hp => ?_, fun i t e => ?_, fun i j t u x y p a b c d e f => ?_⟩
  · unfold L2.start
    simp only [List.length_append, List.length_map, List.length_replicate]
    omega
  · obtain ⟨q, hq, e⟩ := List.mem_filterMap.mp hp
    have e : q = some p := e
    subst e
    obtain ⟨i, hi, e⟩ := List.getElem_of_mem hq
    have e2 : (pinOf args vs)[i]? = some (some p) := by rw [List.getElem?_eq_getElem hi, e]
    obtain ⟨x, h1, h2⟩ := pinOf_get e2
    obtain ⟨v, h3, p', h4, h5, h6⟩ := r.get h1
    rw [h2] at h3
    cases h3
    cases h4
    obtain ⟨o, ho⟩ := h6.there
    show H p ≠ none
    rw [ho]
    simp
  · rcases low e with ⟨h, e⟩ | rfl
    · obtain ⟨v, h1, h2⟩ := r.get e
      cases t with
      | un => exact True.intro
      | pu x => exact ⟨v, at_ h1, h2⟩
      | ow x => exact h2.elim
      | io x =>
        obtain ⟨p, rfl, h4, h5⟩ := h2
        exact ⟨p, at_ h1, h4, pinOf_io e h1 hl, h5⟩
    · exact True.intro
  · rcases low a with ⟨hi, a⟩ | rfl
    · rcases low b with ⟨hj, b⟩ | rfl
      · cases c with
        | ow x => exact (show False from (r.get a).elim fun _ z => z.2).elim
        | io x =>
          cases d with
          | ow x => exact (show False from (r.get b).elim fun _ z => z.2).elim
          | io y => exact ap i j p (pinOf_io a (at2 hi e) hl) (pinOf_io b (at2 hj f) hl)
      · cases d
    · cases c
theorem aft_end {φ : Fr} {args : List Sl} {ρ' : Rh} {F' H' : Hp} {σ' : L2.St} (s : Stt S φ ρ' F' σ' H') (c : chk args ρ' = true) (hp : ∀ (i : Nat) (p : Addr), φ.pin[i]? = some (some p) → ∃ x, args[i]? = some (.io x)) : Aft S φ F' H' (outs args ρ') where
  f := s.fF
  fh := s.same
  k1 := s.k1
  k2 := s.k2
  io := fun i p e => by
    obtain ⟨x, hx⟩ := hp i p e
    obtain ⟨y, hy, hl⟩ := chk_io c hx
    obtain ⟨q, h1, h2, h3, h4⟩ := s.slot i _ hy
    rw [e] at h3
    cases h3
    exact ⟨y, outs_io hx hy, h2, h4⟩
end

/-- THE RULE for a def: its body's meaning is its own -/
theorem fn_sem {P : Program} {w : World} {S : Sg} {mg : Str → Option Value} {base : Heap} {x qual : Str} {params : Arguments} {body : List Stmt} {scope : Scope} {dvs : List V} {kws : List (Str × V)} {f : Addr} {fd : FuncData} {N ps : List Str} {k n : Nat} {b : SS}
    (Fd : FunD S.K x qual params body scope dvs kws f fd) (Sc : FnScope N ps scope) (hn : ps.length + n = N.length)
    (h : ∀ (cdv : Value) (A : Around) (outer : List PySem.Env) (s : Shared) (H : Hp) (E : XK) (φ : Fr), Room k (A.deeper (envOfC qual scope s.heap.objs.size f cdv)) →
      JSs (cxOf (L2.CX P w) P w S.K mg base N qual scope f cdv A outer s H E) S φ (fun cls d _ H' => E cls d H') body b) :
    FnOk P w S.K mg base (L2.CX P w) (k + 1) f fd ps (spOf S (fnOf ps.length n b)) := by
  refine Fd.ok Sc (fun vs H Q E hs => ?_) (fun cdv A outer s H vs Q E hr hs => ?_)
  · obtain ⟨F, args, r, _, h2, _, e, _⟩ := hs
    unfold fnOf at e
    split at e
    · rename_i z
      rw [← h2.len]
      exact z
    · cases e
  · obtain ⟨F, args, r, h1, h2, h3, e, q⟩ := hs
    unfold fnOf at e
    split at e
    case isFalse => cases e
    case isTrue hl =>
    refine ⟨_, h cdv A outer s H E ⟨F, H, pinOf args vs⟩ hr, ?_⟩
    have pin_io : ∀ (i : Nat) (p : Addr), (pinOf args vs)[i]? = some (some p) → ∃ x, args[i]? = some (.io x) := fun i p z => let ⟨x, y, _⟩ := pinOf_get z; ⟨x, y⟩
    cases eb : b (args ++ List.replicate n .un) with
    | none => rw [eb] at e; cases e
    | some z =>
      obtain ⟨fl, ρ'⟩ := z
      rw [eb] at e
      refine ⟨_, F, _, stt_start h1 h2 h3 n (by omega), eb, ?_⟩
      cases fl with
      | nx =>
        dsimp only at e
        split at e
        · rename_i c
          cases e
          exact fun F' σ' H' s' m => q _ F' H' (aft_end s' c pin_io) rfl
        · cases e
      | rt sl =>
        dsimp only at e
        split at e
        · rename_i c
          cases e
          refine fun v F' σ' H' s' m rv => q v F' H' (aft_end s' c pin_io) ?_
          cases sl with
          | pu x => exact rv
          | ow x =>
            obtain ⟨p, e1, nw, tp⟩ := rv
            exact ⟨p, e1, nw.f, nw.h, tp⟩
          | _ => exact rv
        · cases e
      | ex c =>
        dsimp only at e
        split at e
        · rename_i c
          cases e
          exact fun d F' σ' H' s' m => q d F' H' (aft_end s' c pin_io)
        · cases e
      | bk => cases e
      | ct => cases e
end Y

/-! Y5: calls of defs. -/
namespace L2
open PySem PySem.Spec
theorem PA.imp {X : Cx} {e : List Expr} {t t' : TA} (h : PA X e t) (i : ∀ σ H Q, t' σ H Q → t σ H Q) : PA X e t' := ⟨fun pos pins s σ H Q I q => h.run pos pins s σ H Q I (i σ H Q q)⟩
end L2
namespace Y
open PySem PySem.Spec L2
open PyProof.Rows (envOfC)

/-- an argument: a frozen value, the object that a slot may write -/
inductive Ar where
  | pv (x : PV) | own (i : Nat)
def owns : List Ar → List Nat
  | [] => []
  | .pv _ :: as => owns as
  | .own i :: as => i :: owns as
def slOf (ρ : Rh) : Ar → Option Sl
  | .pv x => some (.pu x)
  | .own i => match ρ[i]? with
    | some (.ow x) => some (.io x)
    | some (.io x) => some (.io x)
    | _ => none
def slsOf (ρ : Rh) : List Ar → Option (List Sl)
  | [] => some []
  | a :: as => match slOf ρ a, slsOf ρ as with
    | some s, some ss => some (s :: ss)
    | _, _ => none
/-- what was handed out to be written comes back -/
def wb (ρ : Rh) : List Ar → List Sl → Rh
  | .own i :: as, .io x :: ss => wb (match ρ[i]? with
    | some t => ρ.set i (t.put x)
    | none => ρ) as ss
  | _ :: as, _ :: ss => wb ρ as ss
  | _, _ => ρ
def ArR (S : Sg) (F : Hp) (σ : L2.St) : Ar → V → Prop
  | .pv x, v => Rep S F x v
  | .own i, v => σ[i]? = some (some v)
def ArsR (S : Sg) (F : Hp) (σ : L2.St) : List Ar → List V → Prop
  | [], vs => vs = []
  | a :: as, vs => ∃ v r, vs = v :: r ∧ ArR S F σ a v ∧ ArsR S F σ as r
section
variable {S : Sg} {φ : Fr} {F F' H H' : Hp} {σ : L2.St} {ρ : Rh}
theorem ArR.mono (e : Same F F') : ∀ {a : Ar} {v : V}, ArR S F σ a v → ArR S F' σ a v
  | .pv x, v, h => Rep.mono e _ _ h
  | .own i, v, h => h
theorem ArsR.mono (e : Same F F') : ∀ {as : List Ar} {vs : List V}, ArsR S F σ as vs → ArsR S F' σ as vs
  | [], vs, h => h
  | a :: as, vs, h => by
    obtain ⟨v, r, h1, h2, h3⟩ := h
    exact ⟨v, r, h1, h2.mono e, ArsR.mono e h3⟩
theorem mem_owns : ∀ {as : List Ar} {i k : Nat}, as[i]? = some (.own k) → k ∈ owns as
  | [], i, k, e => by simp at e
  | a :: as, 0, k, e => by
    simp at e
    subst e
    exact List.mem_cons_self
  | a :: as, i + 1, k, e => by
    have := mem_owns (as := as) (i := i) (k := k) (by simpa using e)
    cases a with
    | pv x => exact this
    | own j => exact List.mem_cons_of_mem _ this
theorem own_once : ∀ {as : List Ar} {i j k : Nat}, (owns as).Nodup → as[i]? = some (.own k) → as[j]? = some (.own k) → i = j
  | [], i, j, k, _, e, _ => by simp at e
  | a :: as, 0, 0, k, _, _, _ => rfl
  | a :: as, 0, j + 1, k, nd, e1, e2 => by
    simp at e1
    subst e1
    exact absurd (mem_owns (as := as) (i := j) (k := k) (by simpa using e2)) (List.nodup_cons.mp nd).1
  | a :: as, i + 1, 0, k, nd, e1, e2 => by
    simp at e2
    subst e2
    exact absurd (mem_owns (as := as) (i := i) (k := k) (by simpa using e1)) (List.nodup_cons.mp nd).1
  | a :: as, i + 1, j + 1, k, nd, e1, e2 => by
    have nd2 : (owns as).Nodup := by
      cases a with
      | pv x => exact nd
      | own m => exact (List.nodup_cons.mp nd).2
    have q : i = j := own_once nd2 (by simpa using e1) (by simpa using e2)
    omega
theorem wb_len : ∀ {as : List Ar} {ss : List Sl} {ρ : Rh}, (wb ρ as ss).length = ρ.length
  | [], ss, ρ => by unfold wb; rfl
  | .pv x :: as, [], ρ => by unfold wb; rfl
  | .own i :: as, [], ρ => by unfold wb; rfl
  | .pv x :: as, s :: ss, ρ => by
    unfold wb
    exact wb_len
  | .own i :: as, s :: ss, ρ => by
    cases s with
    | io x =>
      unfold wb
      rw [wb_len]
      split
      · simp
      · rfl
    | _ =>
      unfold wb
      exact wb_len
theorem wb_ne : ∀ {as : List Ar} {ss : List Sl} {ρ : Rh} {k : Nat}, k ∉ owns as → (wb ρ as ss)[k]? = ρ[k]?
  | [], ss, ρ, k, h => by unfold wb; rfl
  | .pv x :: as, [], ρ, k, h => by unfold wb; rfl
  | .own i :: as, [], ρ, k, h => by unfold wb; rfl
  | .pv x :: as, s :: ss, ρ, k, h => by
    unfold wb
    exact wb_ne (as := as) h
  | .own i :: as, s :: ss, ρ, k, h => by
    have h1 : k ≠ i := fun z => h (by rw [z]; exact List.mem_cons_self)
    have h2 : k ∉ owns as := fun z => h (List.mem_cons_of_mem _ z)
    cases s with
    | io x =>
      unfold wb
      rw [wb_ne h2]
      split
      · rw [List.getElem?_set_ne (Ne.symm h1)]
      · rfl
    | _ =>
      unfold wb
      exact wb_ne h2
theorem wb_at : ∀ {as : List Ar} {ss : List Sl} {ρ : Rh} {i k : Nat} {x : PV} {t : Sl}, (owns as).Nodup → as[i]? = some (.own k) → ss[i]? = some (.io x) → ρ[k]? = some t → (wb ρ as ss)[k]? = some (t.put x)
  | [], ss, ρ, i, k, x, t, _, e, _, _ => by simp at e
  | a :: as, [], ρ, i, k, x, t, _, _, e, _ => by simp at e
  | a :: as, s :: ss, ρ, 0, k, x, t, nd, e1, e2, e3 => by
    simp at e1 e2
    subst e1 e2
    unfold wb
    rw [wb_ne (List.nodup_cons.mp nd).1, e3]
    dsimp only
    rw [List.getElem?_set_self (List.getElem?_eq_some_iff.mp e3).1]
  | a :: as, s :: ss, ρ, i + 1, k, x, t, nd, e1, e2, e3 => by
    have e1' : as[i]? = some (.own k) := by simpa using e1
    have e2' : ss[i]? = some (.io x) := by simpa using e2
    cases a with
    | pv y =>
      unfold wb
      exact wb_at (as := as) nd e1' e2' e3
    | own m =>
      obtain ⟨n1, n2⟩ := List.nodup_cons.mp nd
      have nk : m ≠ k := fun z => n1 (by rw [z]; exact mem_owns e1')
      cases s with
      | io y =>
        unfold wb
        refine wb_at n2 e1' e2' ?_
        split
        · rw [List.getElem?_set_ne nk]
          exact e3
        · exact e3
      | _ =>
        unfold wb
        exact wb_at n2 e1' e2' e3
theorem of_owns : ∀ {as : List Ar} {k : Nat}, k ∈ owns as → ∃ (i : Nat), as[i]? = some (Ar.own k)
  | [], k, h => by simp [owns] at h
  | .pv x :: as, k, h => by
    obtain ⟨i, e⟩ := of_owns (as := as) h
    exact ⟨i + 1, by simpa using e⟩
  | .own m :: as, k, h => by
    rcases List.mem_cons.mp (show k ∈ m :: owns as from h) with e | h
    · exact ⟨0, by rw [e]; rfl⟩
    · obtain ⟨i, e⟩ := of_owns h
      exact ⟨i + 1, by simpa using e⟩
theorem slsOf_get : ∀ {as : List Ar} {ss : List Sl} {i : Nat} {s : Sl}, slsOf ρ as = some ss → ss[i]? = some s → ∃ a, as[i]? = some a ∧ slOf ρ a = some s
  | [], ss, i, s, e, h => by
    cases e
    simp at h
  | a :: as, ss, i, s, e, h => by
    unfold slsOf at e
    split at e
    · rename_i s0 ss0 q1 q2
      cases e
      cases i with
      | zero =>
        simp at h
        subst h
        exact ⟨a, rfl, q1⟩
      | succ i =>
        obtain ⟨b, h1, h2⟩ := slsOf_get q2 (by simpa using h)
        exact ⟨b, by simpa using h1, h2⟩
    · cases e
theorem slsOf_len : ∀ {as : List Ar} {ss : List Sl}, slsOf ρ as = some ss → ss.length = as.length
  | [], ss, e => by cases e; rfl
  | a :: as, ss, e => by
    unfold slsOf at e
    split at e
    · rename_i s0 ss0 q1 q2
      cases e
      have := slsOf_len q2
      simp [this]
    · cases e
theorem ArsR.get : ∀ {as : List Ar} {vs : List V} {i : Nat} {a : Ar}, ArsR S F σ as vs → as[i]? = some a → ∃ v, vs[i]? = some v ∧ ArR S F σ a v
  | [], _, _, _, _, e => by simp at e
  | y :: ys, vs, 0, x, h, e => by
    obtain ⟨v, r, rfl, h2, _⟩ := h
    simp at e
    subst e
    exact ⟨v, rfl, h2⟩
  | y :: ys, vs, i + 1, x, h, e => by
    obtain ⟨v, r, rfl, _, h3⟩ := h
    simp at e
    obtain ⟨w, e2, h4⟩ := ArsR.get h3 e
    exact ⟨w, by simpa using e2, h4⟩
theorem ArsR.len : ∀ {as : List Ar} {vs : List V}, ArsR S F σ as vs → as.length = vs.length
  | [], vs, h => by
    have h : vs = [] := h
    rw [h] <;> rfl
  | s :: ss, vs, h => by
    obtain ⟨v, r, rfl, _, h3⟩ := h
    have := ArsR.len h3
    simp [this]
theorem slOf_arg (s : Stt S φ ρ F σ H) {a : Ar} {t : Sl} {v : V} (e : slOf ρ a = some t) (r : ArR S F σ a v) : ArgR S F H t v := by
  cases a with
  | pv x =>
    cases e
    exact r
  | own i =>
    unfold slOf at e
    dsimp only at e
    have r : σ[i]? = some (some v) := r
    split at e
    · rename_i x q
      cases e
      obtain ⟨p, h1, h2, h3, _⟩ := s.mt q (.ow x)
      rw [r] at h1
      cases h1
      exact ⟨p, rfl, h2, h3⟩
    · rename_i x q
      cases e
      obtain ⟨p, h1, h2, h3, _⟩ := s.mt q (.io x)
      rw [r] at h1
      cases h1
      exact ⟨p, rfl, h2, h3⟩
    · cases e
theorem args_of (s : Stt S φ ρ F σ H) : ∀ {as : List Ar} {ss : List Sl} {vs : List V} {dv : List PV} {dvs : List V}, slsOf ρ as = some ss → ArsR S F σ as vs → Reps S F dv dvs → ArgsR S F H (ss ++ dv.map Sl.pu) (vs ++ dvs)
  | [], ss, vs, dv, dvs, e, r, d => by
    cases e
    have r : vs = [] := r
    subst r
    show ArgsR S F H (dv.map Sl.pu) dvs
    induction dv generalizing dvs with
    | nil => exact d
    | cons x xs ih =>
      obtain ⟨v, r, rfl, h1, h2⟩ := d
      exact ⟨v, r, rfl, h1, ih r h2⟩
  | a :: as, ss, vs, dv, dvs, e, r, d => by
    unfold slsOf at e
    split at e
    · rename_i s0 ss0 q1 q2
      cases e
      obtain ⟨v, r', rfl, h1, h2⟩ := r
      exact ⟨v, r' ++ dvs, rfl, slOf_arg s q1 h1, args_of s q2 h2 d⟩
    · cases e
theorem pin_own {as : List Ar} {ss : List Sl} {vs : List V} {dv : List PV} {dvs : List V} (e : slsOf ρ as = some ss) (r : ArsR S F σ as vs) {i : Nat} {p : Addr} (h : (pinOf (ss ++ dv.map Sl.pu) (vs ++ dvs))[i]? = some (some p)) :
    ∃ (k : Nat) (t : Sl) (x : PV), as[i]? = some (.own k) ∧ σ[k]? = some (some (.ref p)) ∧ ρ[k]? = some t ∧ t.Mt x := by
  obtain ⟨x, h1, h2⟩ := pinOf_get h
  have hi : i < ss.length := by
    by_cases q : i < ss.length
    · exact q
    · rw [List.getElem?_append_right (by omega), List.getElem?_map] at h1
      cases z : dv[i - ss.length]? with
      | none => rw [z] at h1; cases h1
      | some y => rw [z] at h1; cases h1
  rw [List.getElem?_append_left hi] at h1
  rw [List.getElem?_append_left (by rw [← r.len, ← slsOf_len e]; exact hi)] at h2
  obtain ⟨a, h3, h4⟩ := slsOf_get e h1
  cases a with
  | pv y => cases h4
  | own k =>
    obtain ⟨v, h5, h6⟩ := r.get h3
    rw [h2] at h5
    cases h5
    unfold slOf at h4
    dsimp only at h4
    split at h4
    · rename_i y q
      exact ⟨k, _, y, h3, h6, q, .ow y⟩
    · rename_i y q
      exact ⟨k, _, y, h3, h6, q, .io y⟩
    · cases h4
theorem apart_of (s : Stt S φ ρ F σ H) {as : List Ar} {ss : List Sl} {vs : List V} {dv : List PV} {dvs : List V} (nd : (owns as).Nodup) (e : slsOf ρ as = some ss) (r : ArsR S F σ as vs) : Apart (pinOf (ss ++ dv.map Sl.pu) (vs ++ dvs)) := fun i j p h1 h2 => by
  obtain ⟨k, t, x, a1, a2, a3, a4⟩ := pin_own e r h1
  obtain ⟨k', t', x', b1, b2, b3, b4⟩ := pin_own e r h2
  have ek : k = k' := s.sep k k' t t' x x' p a3 b3 a4 b4 a2 b2
  subst ek
  exact own_once nd a1 b1
theorem stt_after (s : Stt S φ ρ F σ H) {as : List Ar} {ss args' : List Sl} {vs : List V} {dv : List PV} {dvs : List V} (nd : (owns as).Nodup) (e : slsOf ρ as = some ss) (r : ArsR S F σ as vs) (dr : dv.length = dvs.length)
    (af : Aft S ⟨F, H, pinOf (ss ++ dv.map Sl.pu) (vs ++ dvs)⟩ F' H' args') : Stt S φ (wb ρ as args') F' σ H' := by
  have own_mem : ∀ {p : Addr}, p ∈ (⟨F, H, pinOf (ss ++ dv.map Sl.pu) (vs ++ dvs)⟩ : Fr).own → ∃ i, (pinOf (ss ++ dv.map Sl.pu) (vs ++ dvs))[i]? = some (some p) := fun {p} hp => by
    obtain ⟨q, hq, eq⟩ := List.mem_filterMap.mp hp
    have eq : q = some p := eq
    subst eq
    obtain ⟨i, hi, e⟩ := List.getElem_of_mem hq
    exact ⟨i, by rw [List.getElem?_eq_getElem hi, e]⟩
  -- an address of the callee's is a slot's of ours
  have ours : ∀ {p : Addr}, p ∈ (⟨F, H, pinOf (ss ++ dv.map Sl.pu) (vs ++ dvs)⟩ : Fr).own → ∃ (i k : Nat) (t : Sl) (x : PV), as[i]? = some (.own k) ∧ σ[k]? = some (some (.ref p)) ∧ ρ[k]? = some t ∧ t.Mt x := fun {p} hp => by
    obtain ⟨i, h⟩ := own_mem hp
    exact ⟨i, pin_own e r h⟩
  have kept : ∀ (k : Nat) (t : Sl) (x : PV) (p : Addr), k ∉ owns as → ρ[k]? = some t → t.Mt x → σ[k]? = some (some (.ref p)) → p ∉ (⟨F, H, pinOf (ss ++ dv.map Sl.pu) (vs ++ dvs)⟩ : Fr).own := fun k t x p hk h1 h2 h3 hp => by
    obtain ⟨i, k', t', x', a1, a2, a3, a4⟩ := ours hp
    have ek := s.sep k k' t t' x x' p h1 a3 h2 a4 h3 a2
    subst ek
    exact hk (mem_owns a1)
  have back : ∀ {k : Nat} {t : Sl} {y : PV}, (wb ρ as args')[k]? = some t → t.Mt y → ∃ t' w, ρ[k]? = some t' ∧ t'.Mt w := fun {k t y} h1 h2 => by
    by_cases hk : k ∈ owns as
    · obtain ⟨i, hi⟩ := of_owns hk
      obtain ⟨v, hv, rv⟩ := r.get hi
      have hl : i < as.length := (List.getElem?_eq_some_iff.mp hi).1
      have hs : i < ss.length := by rw [slsOf_len e]; exact hl
      obtain ⟨a, h3, h4⟩ := slsOf_get e (List.getElem?_eq_getElem hs)
      rw [hi] at h3
      cases h3
      unfold slOf at h4
      dsimp only at h4
      split at h4
      · rename_i z q
        exact ⟨_, z, q, .ow z⟩
      · rename_i z q
        exact ⟨_, z, q, .io z⟩
      · cases h4
    · rw [wb_ne hk] at h1
      exact ⟨t, y, h1, h2⟩
  refine ⟨by rw [wb_len]; exact s.len, af.fh, s.fF.trans af.f, fun a o q n => ?_, fun a h1 h2 h3 => ?_, fun p hp => ?_, fun k t q => ?_, fun i j t u x y p a b c d e' f => ?_⟩
  · refine af.k1 a o (s.k1 a o q n) fun hp => ?_
    obtain ⟨i, k, t, x, a1, a2, a3, a4⟩ := ours hp
    obtain ⟨p', b1, b2, b3, b4⟩ := s.mt a3 a4
    rw [a2] at b1
    cases b1
    rcases b4 with b4 | b4
    · rw [b4] at q; cases q
    · exact n b4
  · have hH : H a ≠ none := by
      cases z : φ.H a with
      | none => exact absurd z h1
      | some o => rw [s.k1 a o z h3]; simp
    refine af.k2 a hH (s.k2 a h1 h2 h3) fun hp => ?_
    obtain ⟨i, k, t, x, a1, a2, a3, a4⟩ := ours hp
    obtain ⟨p', b1, b2, b3, b4⟩ := s.mt a3 a4
    rw [a2] at b1
    cases b1
    rcases b4 with b4 | b4
    · exact h1 b4
    · exact h3 b4
  · have hH := s.k3 p hp
    by_cases ho : p ∈ (⟨F, H, pinOf (ss ++ dv.map Sl.pu) (vs ++ dvs)⟩ : Fr).own
    · obtain ⟨i, hi⟩ := own_mem ho
      obtain ⟨x, _, _, tp⟩ := af.io i p hi
      obtain ⟨o, h⟩ := tp.there
      rw [h]
      simp
    · cases z : H p with
      | none => exact absurd z hH
      | some o =>
        rw [af.k1 p o z ho]
        simp
  · by_cases hk : k ∈ owns as
    · obtain ⟨i, hi⟩ := of_owns hk
      have hl : i < as.length := (List.getElem?_eq_some_iff.mp hi).1
      have hs : i < ss.length := by rw [slsOf_len e]; exact hl
      obtain ⟨a, h3, h4⟩ := slsOf_get e (List.getElem?_eq_getElem hs)
      rw [hi] at h3
      cases h3
      obtain ⟨v, hv, rv⟩ := r.get hi
      have rv : σ[k]? = some (some v) := rv
      have h5 : (ss ++ dv.map Sl.pu)[i]? = some ss[i] := by rw [List.getElem?_append_left hs, List.getElem?_eq_getElem hs]
      have h6 : (vs ++ dvs)[i]? = some v := by rw [List.getElem?_append_left (List.getElem?_eq_some_iff.mp hv).1]; exact hv
      have hlen : (ss ++ dv.map Sl.pu).length = (vs ++ dvs).length := by simp [slsOf_len e, r.len, dr]
      unfold slOf at h4
      dsimp only at h4
      split at h4
      · rename_i z q0
        have h4 : Sl.io z = ss[i] := Option.some.inj h4
        obtain ⟨p, b1, b2, b3, b4⟩ := s.slot k _ q0
        rw [rv] at b1
        cases b1
        obtain ⟨x, c1, c2, c3⟩ := af.io i p (pinOf_io (x := z) (by rw [h5, h4]) h6 hlen)
        rw [wb_at nd hi c1 q0] at q
        cases q
        exact ⟨p, rv, c2, b3, c3⟩
      · rename_i z q0
        have h4 : Sl.io z = ss[i] := Option.some.inj h4
        obtain ⟨p, b1, b2, b3, b4⟩ := s.slot k _ q0
        rw [rv] at b1
        cases b1
        obtain ⟨x, c1, c2, c3⟩ := af.io i p (pinOf_io (x := z) (by rw [h5, h4]) h6 hlen)
        rw [wb_at nd hi c1 q0] at q
        cases q
        exact ⟨p, rv, c2, b3, c3⟩
      · cases h4
    · rw [wb_ne hk] at q
      have w := s.slot k t q
      cases t with
      | un => exact True.intro
      | pu y =>
        obtain ⟨v, k1, k2⟩ := w
        exact ⟨v, k1, Rep.mono af.f _ _ k2⟩
      | ow y =>
        obtain ⟨p, k1, k2, k3, k4⟩ := w
        have no := kept k _ y p hk q (.ow y) k1
        obtain ⟨o, ho⟩ := k4.there
        exact ⟨p, k1, af.k2 p (by show H p ≠ none; rw [ho]; simp) k2 no, k3, Top.mono af.f ((af.k1 p o ho no).trans ho.symm) k4⟩
      | io y =>
        obtain ⟨p, k1, k2, k3, k4⟩ := w
        have no := kept k _ y p hk q (.io y) k1
        obtain ⟨o, ho⟩ := k4.there
        exact ⟨p, k1, af.k2 p (by show H p ≠ none; rw [ho]; simp) k2 no, k3, Top.mono af.f ((af.k1 p o ho no).trans ho.symm) k4⟩
  · obtain ⟨t1, w1, r1, r2⟩ := back a c
    obtain ⟨t2, w2, r3, r4⟩ := back b d
    exact s.sep i j t1 t2 w1 w2 p r1 r3 r2 r4 e' f
/-- a new object of the callee's is new to us -/
theorem nw_after (s : Stt S φ ρ F σ H) {ρ' : Rh} {p : Addr} (h1 : F' p = none) (h2 : H p = none) (back : ∀ {k : Nat} {t : Sl} {y : PV}, ρ'[k]? = some t → t.Mt y → ∃ t' w, ρ[k]? = some t' ∧ t'.Mt w) : Nw φ ρ' F' σ p where
  f := h1
  h := by
    cases q : φ.H p with
    | none => rfl
    | some o =>
      by_cases ho : p ∈ φ.own
      · exact absurd h2 (s.k3 p ho)
      · have := s.k1 p o q ho
        rw [h2] at this
        cases this
  no := fun i t x a b c => by
    obtain ⟨t', w, r1, r2⟩ := back a b
    obtain ⟨p', b1, b2, b3, b4⟩ := s.mt r1 r2
    rw [c] at b1
    cases b1
    obtain ⟨o, ho⟩ := b3.there
    rw [h2] at ho
    cases ho
theorem wb_back {as : List Ar} {ss args' : List Sl} (e : slsOf ρ as = some ss) {k : Nat} {t : Sl} {y : PV} (h1 : (wb ρ as args')[k]? = some t) (h2 : t.Mt y) : ∃ t' w, ρ[k]? = some t' ∧ t'.Mt w := by
  by_cases hk : k ∈ owns as
  · obtain ⟨i, hi⟩ := of_owns hk
    have hl : i < as.length := (List.getElem?_eq_some_iff.mp hi).1
    have hs : i < ss.length := by rw [slsOf_len e]; exact hl
    obtain ⟨a, h3, h4⟩ := slsOf_get e (List.getElem?_eq_getElem hs)
    rw [hi] at h3
    cases h3
    unfold slOf at h4
    dsimp only at h4
    split at h4
    · rename_i z q
      exact ⟨_, z, q, .ow z⟩
    · rename_i z q
      exact ⟨_, z, q, .io z⟩
    · cases h4
  · rw [wb_ne hk] at h1
    exact ⟨t, y, h1, h2⟩
end

/-! ### argument expressions -/
section
variable (S : Sg) (φ : Fr) (W : WX)
def tX (f : SM Ar) : TE := fun σ H Q => ∃ ρ F r, Stt S φ ρ F σ H ∧ f ρ = some r ∧ OG S φ W F σ (fun a ρ' F' H' => ∀ v, ArR S F' σ a v → Q v H') r
def tA (f : SM (List Ar)) : TA := fun σ H Q => ∃ ρ F r, Stt S φ ρ F σ H ∧ f ρ = some r ∧ OG S φ W F σ (fun as ρ' F' H' => ∀ vs, ArsR S F' σ as vs → Q vs H') r
/-- an answer that is frozen or new -/
def tR (f : SM Sl) : TE := fun σ H Q => ∃ ρ F r, Stt S φ ρ F σ H ∧ f ρ = some r ∧ OG S φ W F σ (fun sl ρ' F' H' => ∀ v, RtV S φ ρ' F' σ H' sl v → Q v H') r
end
abbrev JX (X : Cx) (S : Sg) (φ : Fr) (W : WX) (e : Expr) (f : SM Ar) : Prop := PE X e (tX S φ W f)
abbrev JA (X : Cx) (S : Sg) (φ : Fr) (W : WX) (es : List Expr) (f : SM (List Ar)) : Prop := PA X es (tA S φ W f)
abbrev JR (X : Cx) (S : Sg) (φ : Fr) (W : WX) (e : Expr) (f : SM Sl) : Prop := PE X e (tR S φ W f)
def aP (f : SE) : SM Ar := f.bind fun x ρ => some (.ok (.pv x), ρ)
def aO (i : Nat) : SM Ar := fun ρ => match ρ[i]? with
  | some (.ow _) => some (.ok (.own i), ρ)
  | some (.io _) => some (.ok (.own i), ρ)
  | _ => none
def aNil : SM (List Ar) := fun ρ => some (.ok [], ρ)
def aCons (f : SM Ar) (g : SM (List Ar)) : SM (List Ar) := f.bind fun a => g.bind fun as ρ => some (.ok (a :: as), ρ)
section
variable {X : Cx} {S : Sg} {φ : Fr} {W : WX} {e : Expr} {es : List Expr} {fe : SE} {fx : SM Ar} {fa : SM (List Ar)} {fr : SM Sl} {pos : Pos}
theorem jx_e (h : JE X S φ W e fe) : JX X S φ W e (aP fe) := h.imp fun σ H Q ⟨ρ, F, r, s, e1, o⟩ => by
  obtain ⟨r1, e2, o2⟩ := OG.seq e1 o
  refine ⟨ρ, F, r1, s, e2, o2.imp fun x ρ1 F1 H1 s1 m1 ⟨r2, e3, o3⟩ v hv => ?_⟩
  cases e3
  exact o3 F1 H1 s1 (Same.refl _) v hv
theorem jx_o (i : Nat) {x : Str} (hN : X.N[i]? = some x := by rfl) (hv : Vis X.env.scope x := by first | exact Or.inl rfl | exact Or.inr (Or.inl rfl) | exact Or.inr (Or.inr rfl)) (hd : (x == ("__debug__" : Str)) = false := by decide)
    (hcd : (x == ("__classdict__" : Str)) = false := by decide) : JX X S φ W (.Name x pos) (aO i) := (pe_var hN hv hd hcd).imp fun σ H Q ⟨ρ, F, r, s, e1, o⟩ => by
  unfold aO at e1
  split at e1
  · rename_i y q
    cases e1
    obtain ⟨p, h1, _⟩ := s.mt q (.ow y)
    exact ⟨_, h1, o F H s (Same.refl _) _ h1⟩
  · rename_i y q
    cases e1
    obtain ⟨p, h1, _⟩ := s.mt q (.io y)
    exact ⟨_, h1, o F H s (Same.refl _) _ h1⟩
  · cases e1
theorem ja_nil : JA X S φ W [] aNil := pa_nil.imp fun σ H Q ⟨ρ, F, r, s, e1, o⟩ => by
  cases e1
  exact o F H s (Same.refl _) [] rfl
theorem ja_cons (ha : JX X S φ W e fx) (hr : JA X S φ W es fa) (hs : starEach (e :: es) X.env = (false, eval e X.env) :: starEach es X.env := by rfl) : JA X S φ W (e :: es) (aCons fx fa) := (pa_cons ha hr hs).imp fun σ H Q ⟨ρ, F, r, s, e1, o⟩ => by
  obtain ⟨r1, e2, o2⟩ := OG.seq e1 o
  refine ⟨ρ, F, r1, s, e2, o2.imp fun a ρ1 F1 H1 s1 m1 ⟨r2, e3, o3⟩ v hv => ?_⟩
  obtain ⟨r3, e4, o4⟩ := OG.seq e3 o3
  refine ⟨ρ1, F1, r3, s1, e4, o4.imp fun as ρ2 F2 H2 s2 m2 ⟨r4, e5, o5⟩ vs hvs => ?_⟩
  cases e5
  exact o5 F2 H2 s2 (Same.refl _) _ ⟨v, vs, rfl, hv.mono m2, hvs⟩
theorem ja_e (ha : JE X S φ W e fe) (hr : JA X S φ W es fa) (hs : starEach (e :: es) X.env = (false, eval e X.env) :: starEach es X.env := by rfl) : JA X S φ W (e :: es) (aCons (aP fe) fa) := ja_cons (jx_e ha) hr hs

/-! ### calls -/
/-- a def that may be called here -/
structure Cal (X : Cx) (S : Sg) (f : Addr) (dv : List PV) (g : Fn) : Prop where
  ex : ∃ (k : Nat) (fd : FuncData) (ps : List Str) (ds : List Value) (dvs : List V), FnOk X.prog X.w X.K X.mg X.base (L2.CX X.prog X.w) k f fd ps (spOf S g) ∧ Room (k + 1) X.A ∧ Binds X.K fd ps ds ∧ Vals dvs ds ∧ ∀ F, Reps S F dv dvs
/-- the answer of g at the arguments as -/
def callG (g : Fn) (dv : List PV) (as : List Ar) : SM Sl := fun ρ => if (owns as).Nodup then (match slsOf ρ as with
  | some ss => (match g (ss ++ dv.map .pu) with
    | some (.ok sl, args') => some (.ok sl, wb ρ as args')
    | some (.ex c, args') => some (.ex c, wb ρ as args')
    | none => none)
  | none => none) else none
theorem call_sp {g : Fn} {dv : List PV} {as : List Ar} {σ : L2.St} {H F : Hp} {ρ : Rh} {vs dvs : List V} {Q : VK} {r : Ou Sl × Rh} (s : Stt S φ ρ F σ H) (hr : ArsR S F σ as vs) (hd : Reps S F dv dvs) (e : callG g dv as ρ = some r)
    (o : OG S φ W F σ (fun sl ρ' F' H' => ∀ v, RtV S φ ρ' F' σ H' sl v → Q v H') r) : spOf S g (vs ++ dvs) H Q (WE W σ) := by
  unfold callG at e
  split at e
  case isFalse => cases e
  case isTrue nd =>
  split at e
  case h_2 => cases e
  case h_1 ss es =>
  cases q : g (ss ++ dv.map .pu) with
  | none => rw [q] at e; cases e
  | some z =>
    obtain ⟨a, args'⟩ := z
    rw [q] at e
    refine ⟨F, ss ++ dv.map .pu, _, s.same, args_of s es hr hd, apart_of s nd es hr, q, ?_⟩
    cases a with
    | ok sl =>
      cases e
      intro v F' H' af rv
      have s2 := stt_after s nd es hr hd.length af
      refine o F' H' s2 af.f v ?_
      cases sl with
      | pu x => exact rv
      | ow x =>
        obtain ⟨p, e1, e2, e3, e4⟩ := rv
        exact ⟨p, e1, nw_after s e2 e3 (wb_back es), e4⟩
      | _ => exact rv
    | ex c =>
      cases e
      exact fun d F' H' af => o d F' H' (stt_after s nd es hr hd.length af) af.f
def eCall (g : Fn) (dv : List PV) (fa : SM (List Ar)) : SM Sl := fa.bind fun as => callG g dv as
/-- f(e, ..) -/
theorem jr_call {f : Addr} {dv : List PV} {g : Fn} {x : Str} {p : Pos} (tk : Takes X W) (C : Cal X S f dv g) (hm : X.mg x = some (.ref f)) (hk : PySem.W.keepIn X.K (.ref f) = true) (ha : JA X S φ W (e :: es) fa) (hg : Gl X x := by rfl)
    (hdb : (x == ("__debug__" : Str)) = false := by decide) (he : starEach (e :: es) X.env = (false, eval e X.env) :: starEach es X.env := by rfl) (hpl : (backTo pos (starEach es X.env)).any (·.1) = false := by rfl) :
    JR X S φ W (.Call (.Name x p) (e :: es) [] pos) (eCall g dv fa) := by
  obtain ⟨k, fd, ps, ds, dvs, F, hr, hb, hd, hv⟩ := C.ex
  refine (pe_callSD F (hr.mono (Nat.le_succ k)) hg hm hk hb hd (fun σ => passAt tk σ) ha hdb he hpl).imp fun σ H Q ⟨ρ, F, r, s, e1, o⟩ => ?_
  obtain ⟨r1, e2, o2⟩ := OG.seq e1 o
  exact ⟨ρ, F, r1, s, e2, o2.imp fun as ρ1 F1 H1 s1 m1 ⟨r2, e3, o3⟩ vs hvs => call_sp s1 hvs (hv F1) e3 o3⟩
/-- f() -/
theorem jr_call0 {f : Addr} {dv : List PV} {g : Fn} {x : Str} {p : Pos} (tk : Takes X W) (C : Cal X S f dv g) (hm : X.mg x = some (.ref f)) (hk : PySem.W.keepIn X.K (.ref f) = true) (hg : Gl X x := by rfl)
    (hdb : (x == ("__debug__" : Str)) = false := by decide) : JR X S φ W (.Call (.Name x p) [] [] pos) (eCall g dv aNil) := by
  obtain ⟨k, fd, ps, ds, dvs, F, hr, hb, hd, hv⟩ := C.ex
  refine ⟨fun pins s0 σ H Q I h => ?_⟩
  obtain ⟨ρ, F0, r, s, e1, o⟩ := h
  obtain ⟨r1, e2, o2⟩ := OG.seq e1 o
  cases e2
  obtain ⟨r2, e3, o3⟩ := o2 F0 H s (Same.refl _)
  refine wpAny_Call_Name_kw (ld_glob I hg hm ?_ hdb)
  refine PySem.W.callWith_K0 I.kIn hk ?_
  exact run_fnSD (vs := []) (us := []) F (hr.mono (Nat.le_succ k)) hb hd (passAt tk σ) I .nil (call_sp (as := []) (vs := []) s rfl (hv F0) e3 o3)
/-- the answer as a frozen value -/
def asE (sl : Sl) : SE := fun ρ => match sl with
  | .pu x => some (.ok x, ρ)
  | .ow x => some (.ok x, ρ)
  | _ => none
def eR (f : SM Sl) : SE := f.bind asE
/-- .. as a new object -/
def eRN (f : SM Sl) : SE := f.bind fun sl ρ => match sl with
  | .ow x => some (.ok x, ρ)
  | _ => none
theorem JR.toN (h : JR X S φ W e fr) : JN X S φ W e (eRN fr) := h.imp fun σ H Q ⟨ρ, F, r, s, e1, o⟩ => by
  obtain ⟨r1, e2, o2⟩ := OG.seq e1 o
  refine ⟨ρ, F, r1, s, e2, o2.imp fun sl ρ1 F1 H1 s1 m1 ⟨r2, e3, o3⟩ v hv => ?_⟩
  cases sl with
  | ow x =>
    cases e3
    obtain ⟨p, rfl, nw, tp⟩ := hv
    exact o3 F1 H1 s1 (Same.refl _) p nw tp
  | _ => cases e3
theorem JR.toE (h : JR X S φ W e fr) : JE X S φ W e (eR fr) := by
  refine ⟨fun pins s0 σ H Q I hq => ?_⟩
  obtain ⟨ρ, F, r, s, e1, o⟩ := hq
  obtain ⟨r1, e2, o2⟩ := OG.seq e1 o
  refine thn (h.run pins s0 σ H (fun v H1 => ∃ sl ρ1 F1 r2, Stt S φ ρ1 F1 σ H1 ∧ RtV S φ ρ1 F1 σ H1 sl v ∧ asE sl ρ1 = some r2 ∧ OG S φ W F1 σ (fun x ρ' F' H' => ∀ v, Rep S F' x v → Q v H') r2) I ⟨ρ, F, r1, s, e2, o2.imp fun sl ρ1 F1 H1 s1 m1 ⟨r2, e3, o3⟩ v hv => ⟨sl, ρ1, F1, r2, s1, hv, e3, o3⟩⟩) fun u s1 q => ?_
  obtain ⟨v, H1, I1, rv, sl, ρ1, F1, r2, s2, hv, e3, o3⟩ := q
  cases sl with
  | pu x =>
    cases e3
    exact ⟨v, H1, I1, rv, o3 F1 H1 s2 (Same.refl _) v hv⟩
  | ow x =>
    cases e3
    obtain ⟨p, rfl, nw, tp⟩ := hv
    obtain ⟨u0, hu⟩ := tp.there
    obtain ⟨u', z, I2⟩ := I1.fzn tp hu
    obtain ⟨fr, s3⟩ := s2.freezeAs (o := u') nw.f nw.h nw.no
    exact ⟨_, _, I2, rv, o3 _ _ s3 fr _ (Top.fzn (F' := F1) (H' := H1) tp hu z nw.f)⟩
  | _ => cases e3
end
end Y

/-! Y6: operators and built-in functions. -/
namespace Y
open PySem PySem.Spec L2
open PyProof.Rows (envOfC)

/-! ### ints -/
/-- a factor's size -/
def Sz (i : Int) : Prop := i.natAbs.log2 < 400000
def MulB (i j : Int) : Prop := i.natAbs < 2 ^ 64 ∨ j.natAbs < 2 ^ 64 ∨ (Sz i ∧ Sz j)
def DivB (j : Int) : Prop := j ≠ 0 ∧ j.natAbs.log2 < 9000
/-! (these are not to be reckoned by the kernel: great literals) -/
noncomputable instance (i : Int) : Decidable (Sz i) := Classical.propDecidable _
noncomputable instance (i j : Int) : Decidable (MulB i j) := Classical.propDecidable _
noncomputable instance (i j : Int) : Decidable (CPow i j) := Classical.propDecidable _
noncomputable instance (j : Int) : Decidable (DivB j) := Classical.propDecidable _
theorem Sz.of_lt {i : Int} {k : Nat} (h : i.natAbs < 2 ^ k) (h0 : 0 < k) (hk : k ≤ 400000) : Sz i := Nat.lt_of_lt_of_le (PySem.Flt.log2_lt_of h0 h) hk
theorem DivB.of_lt {j : Int} {k : Nat} (h : j.natAbs < 2 ^ k) (h0 : 0 < k) (hk : k ≤ 9000) (hj : j ≠ 0) : DivB j := ⟨hj, Nat.lt_of_lt_of_le (PySem.Flt.log2_lt_of h0 h) hk⟩
theorem MulB.ok {i j : Int} (h : MulB i j) : IntMulOk i j := by
  rcases h with h | h | ⟨h1, h2⟩
  · exact .of_left (intBits_le_64 (by omega) (by omega))
  · exact .of_right (intBits_le_64 (by omega) (by omega))
  · refine CMulW.ok ?_
    have h1 : i.natAbs.log2 < 400000 := h1
    have h2 : j.natAbs.log2 < 400000 := h2
    unfold CMulW
    omega

section
variable {X : Cx} {S : Sg} {φ : Fr} {W : WX} {e a b c : Expr} {es : List Expr} {f fa fb fc : SE} {pos : Pos}
def oI (g : Int → Int → Option Int) : PV → PV → Option PV
  | .int i, .int j => (g i j).map .int
  | _, _ => none
def oAdd := oI fun i j => some (i + j)
def oSub := oI fun i j => some (i - j)
noncomputable def oMul := oI fun i j => if MulB i j then some (i * j) else none
noncomputable def oFdiv := oI fun i j => if DivB j then some (i.fdiv j) else none
def oMod := oI fun i j => if j = 0 then none else some (i.fmod j)
noncomputable def oPow := oI fun i j => if CPow i j then some (i ^ j.toNat) else none
theorem op2_I {fv : Value → Value → Sem Value} {C : Int → Int → Prop} {h : Int → Int → Int} {g : Int → Int → Option Int} (ho : OpR X fv (rI C fun i j => .int (h i j))) (q : ∀ i j k, g i j = some k → C i j ∧ k = h i j) : Op2 X S fv (oI g) :=
  op2_of ho fun F H x y z v w Q s rx ry e k => by
    unfold oI at e
    split at e
    · rename_i i j
      cases z0 : g i j with
      | none => rw [z0] at e; cases e
      | some m =>
        rw [z0] at e
        cases e
        obtain ⟨c, rfl⟩ := q i j m z0
        exact ⟨i, j, rx, ry, c, k _ F H (Gw.rfl' s) rfl⟩
    · cases e
theorem op2_I0 {fv : Value → Value → Sem Value} {h : Int → Int → Int} (ho : OpR X fv (rI0 fun i j => .int (h i j))) : Op2 X S fv (oI fun i j => some (h i j)) :=
  op2_of ho fun F H x y z v w Q s rx ry e k => by
    unfold oI at e
    split at e
    · rename_i i j
      cases e
      exact ⟨i, j, rx, ry, k _ F H (Gw.rfl' s) rfl⟩
    · cases e
theorem o_sub : Op2 X S (binaryOp .Sub) oSub := op2_I0 op_sub
theorem o_addI : Op2 X S (binaryOp .Add) oAdd := op2_I0 op_add
theorem op_mulA : OpR X (binaryOp .Mult) (rI MulB fun i j => .int (i * j)) := opI fun _ _ _ _ _ _ _ hc q => PyProof.Rows.mul_int q hc.ok
theorem op_fdivA : OpR X (binaryOp .FloorDiv) (rI (fun _ j => DivB j) fun i j => .int (i.fdiv j)) := opI fun i j _ _ _ _ _ hc q => PyProof.Rows.floordiv_int hc.1 q (.inl (PyProof.noPylong_of_log2 hc.2))
theorem o_mul : Op2 X S (binaryOp .Mult) oMul := op2_I op_mulA fun i j k e => by
  split at e
  · cases e; exact ⟨by assumption, rfl⟩
  · cases e
theorem o_fdiv : Op2 X S (binaryOp .FloorDiv) oFdiv := op2_I op_fdivA fun i j k e => by
  split at e
  · cases e; exact ⟨by assumption, rfl⟩
  · cases e
theorem o_mod : Op2 X S (binaryOp .Mod) oMod := op2_I op_modN fun i j k e => by
  split at e
  · cases e
  · cases e; exact ⟨by assumption, rfl⟩
theorem o_pow : Op2 X S (binaryOp .Pow) oPow := op2_I op_pow fun i j k e => by
  split at e
  · cases e; exact ⟨by assumption, rfl⟩
  · cases e

/-! ### texts and lists joined -/
def oAddS : PV → PV → Option PV
  | .str x, .str y => if x.length + y.length ≤ 16777216 then some (.str (x ++ y)) else none
  | _, _ => none
theorem o_addS : Op2 X S (binaryOp .Add) oAddS := op2_of op_add_str fun F H x y z v w Q s rx ry e k => by
  unfold oAddS at e
  split at e
  · split at e
    · rename_i hl
      cases e
      exact ⟨_, _, rx, ry, by rw [sizeLine_eq]; exact hl, k _ F H (Gw.rfl' s) rfl⟩
    · cases e
  · cases e

/-! ### comparisons -/
def oC (g : Int → Int → Bool) : PV → PV → Option PV
  | .int i, .int j => some (.bl (g i j))
  | _, _ => none
def oLt := oC fun i j => decide (i < j)
def oLe := oC fun i j => decide (i ≤ j)
def oGt := oC fun i j => decide (j < i)
def oGe := oC fun i j => decide (j ≤ i)
theorem op2_C {fv : Value → Value → Sem Value} {g : Int → Int → Bool} (ho : OpR X fv (rI0 fun i j => .bl (g i j))) : Op2 X S fv (oC g) := op2_of ho fun F H x y z v w Q s rx ry e k => by
  unfold oC at e
  split at e
  · rename_i i j
    cases e
    exact ⟨i, j, rx, ry, k _ F H (Gw.rfl' s) rfl⟩
  · cases e
theorem o_lt : Op2 X S (compareOp .Lt) oLt := op2_C op_lt
theorem o_le : Op2 X S (compareOp .LtE) oLe := op2_C op_le
theorem o_gt : Op2 X S (compareOp .Gt) oGt := op2_C op_gt
theorem o_ge : Op2 X S (compareOp .GtE) oGe := op2_C op_ge
/-- == of two ints, two truth values, two texts, None and any of these -/
def scalE : PV → PV → Option Bool
  | .int i, .int j => some (decide (i = j))
  | .bl i, .bl j => some (i == j)
  | .str i, .str j => some (decide (i = j))
  | .non, .non => some true
  | .non, .int _ => some false
  | .int _, .non => some false
  | .non, .bl _ => some false
  | .bl _, .non => some false
  | .non, .str _ => some false
  | .str _, .non => some false
  | .int _, .str _ => some false
  | .str _, .int _ => some false
  | .bl _, .str _ => some false
  | .str _, .bl _ => some false
  | _, _ => none
def oEq (x y : PV) : Option PV := (scalE x y).map .bl
def oNe (x y : PV) : Option PV := (scalE x y).map fun b => .bl (!b)
theorem scalE_ok {F : Hp} {x y : PV} {v w : V} {k : Bool} (rx : Rep S F x v) (ry : Rep S F y w) (e : scalE x y = some k) : scal v w = true ∧ decide (v = w) = k := by
  unfold scalE at e
  split at e
  all_goals first | cases e | skip
  all_goals (
    have rx := rx
    have ry := ry
    unfold Rep at rx ry
    subst rx ry
    refine ⟨rfl, ?_⟩)
  all_goals first | rfl | (rw [Bool.eq_iff_iff]; simp)
theorem o_eq : Op2 X S (compareOp .Eq) oEq := op2_of op_eq fun F H x y z v w Q s rx ry e k => by
  unfold oEq at e
  cases q : scalE x y with
  | none => rw [q] at e; cases e
  | some b =>
    rw [q] at e
    cases e
    obtain ⟨h1, h2⟩ := scalE_ok rx ry q
    exact ⟨h1, by rw [h2]; exact k _ F H (Gw.rfl' s) rfl⟩
theorem o_ne : Op2 X S (compareOp .NotEq) oNe := op2_of op_ne fun F H x y z v w Q s rx ry e k => by
  unfold oNe at e
  cases q : scalE x y with
  | none => rw [q] at e; cases e
  | some b =>
    rw [q] at e
    cases e
    obtain ⟨h1, h2⟩ := scalE_ok rx ry q
    exact ⟨h1, by rw [h2]; exact k _ F H (Gw.rfl' s) rfl⟩
/-- x is None -/
def PV.isN : PV → Bool
  | .non => true
  | _ => false
theorem Rep.isN {F : Hp} {x : PV} {v : V} (r : Rep S F x v) : decide (v = .non) = x.isN := by
  cases x with
  | non => exact decide_eq_true r
  | bl b => have r : v = .bl b := r; rw [r]; rfl
  | int b => have r : v = .int b := r; rw [r]; rfl
  | str b => have r : v = .str b := r; rw [r]; rfl
  | ty b => have r : v = .ty b := r; rw [r]; rfl
  | cls b => have r : v = .ref (S.ca b) := r; rw [r]; rfl
  | tup xs => obtain ⟨a, vs, rfl, _⟩ := r; rfl
  | lst xs => obtain ⟨a, vs, rfl, _⟩ := r; rfl
  | dct ks xs => obtain ⟨a, od, vs, rfl, _⟩ := r; rfl
  | obj c xs => obtain ⟨a, dx, vs, rfl, _⟩ := r; rfl
  | exn c => exact (show False from r).elim
def oIsN (x y : PV) : Option PV := match y with
  | .non => some (.bl x.isN)
  | _ => none
def oNotN (x y : PV) : Option PV := match y with
  | .non => some (.bl (!x.isN))
  | _ => none
theorem o_isN : Op2 X S (compareOp .Is) oIsN := op2_of op_isN fun F H x y z v w Q s rx ry e k => by
  unfold oIsN at e
  split at e
  · cases e
    exact ⟨ry, by rw [Rep.isN rx]; exact k _ F H (Gw.rfl' s) rfl⟩
  · cases e
theorem o_notN : Op2 X S (compareOp .IsNot) oNotN := op2_of op_notN fun F H x y z v w Q s rx ry e k => by
  unfold oNotN at e
  split at e
  · cases e
    exact ⟨ry, by rw [Rep.isN rx]; exact k _ F H (Gw.rfl' s) rfl⟩
  · cases e

/-! ### one-place operators -/
def eUn (op : PV → Option PV) (f : SE) : SE := f.bind fun x => fun ρ => match op x with
  | some z => some (.ok z, ρ)
  | none => none
def oNeg : PV → Option PV
  | .int i => some (.int (-i))
  | _ => none
theorem je_neg (h : JE X S φ W a fa) : JE X S φ W (.UnaryOp .USub a pos) (eUn oNeg fa) := (pe_un un_neg h).imp fun σ H Q ⟨ρ, F, r, s, e1, o⟩ => by
  obtain ⟨r1, e2, o2⟩ := OG.seq e1 o
  refine ⟨ρ, F, r1, s, e2, o2.imp fun x ρ1 F1 H1 s1 m1 ⟨r2, e3, o3⟩ v hv => ?_⟩
  cases x with
  | int i =>
    cases e3
    exact ⟨i, hv, o3 F1 H1 s1 (Same.refl _) _ rfl⟩
  | _ => cases e3

/-! ### built-in functions of values -/
/-- arguments that are frozen values -/
def tP (S : Sg) (φ : Fr) (W : WX) (f : SM (List PV)) : TA := fun σ H Q => ∃ ρ F r, Stt S φ ρ F σ H ∧ f ρ = some r ∧ OG S φ W F σ (fun xs ρ' F' H' => ∀ vs, Reps S F' xs vs → Q vs H') r
abbrev JP (X : Cx) (S : Sg) (φ : Fr) (W : WX) (es : List Expr) (f : SM (List PV)) : Prop := PA X es (tP S φ W f)
def pNil : SM (List PV) := fun ρ => some (.ok [], ρ)
def pCons (f : SE) (g : SM (List PV)) : SM (List PV) := f.bind fun a => g.bind fun as ρ => some (.ok (a :: as), ρ)
theorem Reps.cons' {F : Hp} {x : PV} {v : V} {xs : List PV} {vs : List V} (h : Rep S F x v) (t : Reps S F xs vs) : Reps S F (x :: xs) (v :: vs) := ⟨v, vs, rfl, h, t⟩
theorem jp_nil : JP X S φ W [] pNil := pa_nil.imp fun σ H Q ⟨ρ, F, r, s, e1, o⟩ => by
  cases e1
  exact o F H s (Same.refl _) [] rfl
theorem jp_cons {fp : SM (List PV)} (ha : JE X S φ W e f) (hr : JP X S φ W es fp) (hs : starEach (e :: es) X.env = (false, eval e X.env) :: starEach es X.env := by rfl) : JP X S φ W (e :: es) (pCons f fp) := (pa_cons ha hr hs).imp fun σ H Q ⟨ρ, F, r, s, e1, o⟩ => by
  obtain ⟨r1, e2, o2⟩ := OG.seq e1 o
  refine ⟨ρ, F, r1, s, e2, o2.imp fun a ρ1 F1 H1 s1 m1 ⟨r2, e3, o3⟩ v hv => ?_⟩
  obtain ⟨r3, e4, o4⟩ := OG.seq e3 o3
  refine ⟨ρ1, F1, r3, s1, e4, o4.imp fun as ρ2 F2 H2 s2 m2 ⟨r4, e5, o5⟩ vs hvs => ?_⟩
  cases e5
  exact o5 F2 H2 s2 (Same.refl _) _ (Reps.cons' (Rep.mono m2 _ _ hv) hvs)
/-- a built-in's meaning: it raises nothing and changes nothing -/
def BfR (X : Cx) (S : Sg) (fv : Value) (op : List PV → Option PV) : Prop :=
  ∃ r : List V → Hp → VK → Prop, CallR X fv r ∧ ∀ (F H : Hp) (xs : List PV) (z : PV) (vs : List V) (Q : VK), Same F H → Reps S F xs vs → op xs = some z → (∀ u F' H', Gw F H F' H' → Rep S F' z u → Q u H') → r vs H Q
def eBf (op : List PV → Option PV) (fa : SM (List PV)) : SE := fa.bind fun xs => fun ρ => match op xs with
  | some z => some (.ok z, ρ)
  | none => none
theorem bf_red {op : List PV → Option PV} {fp : SM (List PV)} {r : List V → Hp → VK → Prop}
    (h2 : ∀ (F H : Hp) (xs : List PV) (z : PV) (vs : List V) (Q : VK), Same F H → Reps S F xs vs → op xs = some z → (∀ u F' H', Gw F H F' H' → Rep S F' z u → Q u H') → r vs H Q)
    {σ : L2.St} {H : Hp} {Q : VK} (h : tJ S φ W (eBf op fp) σ H Q) : tCB r (tP S φ W fp) σ H Q := by
  obtain ⟨ρ, F, z, s, e1, o⟩ := h
  obtain ⟨r1, e2, o2⟩ := OG.seq e1 o
  refine ⟨ρ, F, r1, s, e2, o2.imp fun xs ρ1 F1 H1 s1 m1 ⟨r2, e3, o3⟩ vs hvs => ?_⟩
  dsimp only at e3
  cases q : op xs with
  | none => rw [q] at e3; cases e3
  | some z =>
    rw [q] at e3
    cases e3
    exact h2 F1 H1 xs z vs Q s1.same hvs q fun u F' H' g ru => o3 F' H' (s1.grow g) g.f u ru
theorem je_bf {x : Str} {p : Pos} {id : String} {op : List PV → Option PV} {fp : SM (List PV)} (ho : BfR X S (.builtin id) op) (hm : X.mg x = none) (ha : JP X S φ W (e :: es) fp) (hv : bootBuiltins x = some (.builtin id) := by decide +kernel) (hg : Gl X x := by rfl)
    (hn : x ≠ "__name__" := by decide) (hdb : (x == ("__debug__" : Str)) = false := by decide) (he : starEach (e :: es) X.env = (false, eval e X.env) :: starEach es X.env := by rfl) (hpl : (backTo pos (starEach es X.env)).any (·.1) = false := by rfl) :
    JE X S φ W (.Call (.Name x p) (e :: es) [] pos) (eBf op fp) := by
  obtain ⟨r, h1, h2⟩ := ho
  exact (pe_callB h1 hg hm hv ha hn hdb he hpl).imp fun σ H Q h => bf_red h2 h
theorem je_bt {x : Str} {p : Pos} {T : String} {op : List PV → Option PV} {fp : SM (List PV)} (ho : BfR X S (.type T) op) (hm : X.mg x = none) (ha : JP X S φ W (e :: es) fp) (hv : bootBuiltins x = some (.type T) := by decide +kernel) (hg : Gl X x := by rfl)
    (hn : x ≠ "__name__" := by decide) (hdb : (x == ("__debug__" : Str)) = false := by decide) (he : starEach (e :: es) X.env = (false, eval e X.env) :: starEach es X.env := by rfl) (hpl : (backTo pos (starEach es X.env)).any (·.1) = false := by rfl) :
    JE X S φ W (.Call (.Name x p) (e :: es) [] pos) (eBf op fp) := by
  obtain ⟨r, h1, h2⟩ := ho
  exact (pe_callTy h1 hg hm hv ha hn hdb he hpl).imp fun σ H Q h => bf_red h2 h
theorem reps1 {F : Hp} {x : PV} {vs : List V} (h : Reps S F [x] vs) : ∃ v, vs = [v] ∧ Rep S F x v := by
  obtain ⟨v, r, rfl, h1, h2⟩ := h
  have h2 : r = [] := h2
  rw [h2]
  exact ⟨v, rfl, h1⟩
theorem reps2 {F : Hp} {x y : PV} {vs : List V} (h : Reps S F [x, y] vs) : ∃ v w, vs = [v, w] ∧ Rep S F x v ∧ Rep S F y w := by
  obtain ⟨v, r, rfl, h1, h2⟩ := h
  obtain ⟨w, rfl, h3⟩ := reps1 h2
  exact ⟨v, w, rfl, h1, h3⟩
def bAbs : List PV → Option PV
  | [.int i] => some (.int (if i < 0 then -i else i))
  | _ => none
theorem b_abs : BfR X S (.builtin "abs") bAbs := ⟨_, call_abs, fun F H xs z vs Q s r e k => by
  unfold bAbs at e
  split at e
  · cases e
    obtain ⟨v, rfl, hv⟩ := reps1 r
    have hv : v = .int _ := hv
    exact ⟨_, by rw [hv], k _ F H (Gw.rfl' s) rfl⟩
  · cases e⟩
def bMax : List PV → Option PV
  | [.int i, .int j] => some (.int (if j > i then j else i))
  | _ => none
def bMin : List PV → Option PV
  | [.int i, .int j] => some (.int (if j < i then j else i))
  | _ => none
theorem b_max (hc : X.calm = true) : BfR X S (.builtin "max") bMax := ⟨_, call_max2 hc, fun F H xs z vs Q s r e k => by
  unfold bMax at e
  split at e
  · cases e
    obtain ⟨v, w, rfl, hv, hw⟩ := reps2 r
    have hv : v = .int _ := hv
    have hw : w = .int _ := hw
    exact ⟨_, _, by rw [hv, hw], k _ F H (Gw.rfl' s) rfl⟩
  · cases e⟩
theorem b_min (hc : X.calm = true) : BfR X S (.builtin "min") bMin := ⟨_, call_min2 hc, fun F H xs z vs Q s r e k => by
  unfold bMin at e
  split at e
  · cases e
    obtain ⟨v, w, rfl, hv, hw⟩ := reps2 r
    have hv : v = .int _ := hv
    have hw : w = .int _ := hw
    exact ⟨_, _, by rw [hv, hw], k _ F H (Gw.rfl' s) rfl⟩
  · cases e⟩
def bInt : List PV → Option PV
  | [.int i] => some (.int i)
  | [.bl b] => some (.int (if b then 1 else 0))
  | _ => none
theorem b_int : BfR X S (.type "int") bInt := ⟨_, call_int1, fun F H xs z vs Q s r e k => by
  unfold bInt at e
  split at e
  · cases e
    obtain ⟨v, rfl, hv⟩ := reps1 r
    have hv : v = .int _ := hv
    exact .inl ⟨_, by rw [hv], k _ F H (Gw.rfl' s) rfl⟩
  · cases e
    obtain ⟨v, rfl, hv⟩ := reps1 r
    have hv : v = .bl _ := hv
    exact .inr ⟨_, by rw [hv], k _ F H (Gw.rfl' s) rfl⟩
  · cases e⟩
def bStr : List PV → Option PV
  | [.int i] => if i.natAbs.log2 < 1920 then some (.str (toString i)) else none
  | _ => none
theorem b_str : BfR X S (.type "str") bStr := ⟨_, call_str_int, fun F H xs z vs Q s r e k => by
  unfold bStr at e
  split at e
  · split at e
    · rename_i hl
      cases e
      obtain ⟨v, rfl, hv⟩ := reps1 r
      have hv : v = .int _ := hv
      exact ⟨_, by rw [hv], hl, k _ F H (Gw.rfl' s) rfl⟩
    · cases e
  · cases e⟩

/-! ### isinstance -/
/-- a value's type -/
inductive Tg where
  | b (n : String) | c (c : Cid)
def tgOf : PV → Option Tg
  | .non => some (.b "NoneType")
  | .bl _ => some (.b "bool")
  | .int _ => some (.b "int")
  | .str _ => some (.b "str")
  | .tup _ => some (.b "tuple")
  | .lst _ => some (.b "list")
  | .dct _ _ => some (.b "dict")
  | .obj c _ => some (.c c)
  | _ => none
def Tg.v (S : Sg) : Tg → Value
  | .b n => .type n
  | .c c => .ref (S.ca c)
/-- what a class is to isinstance and to the readings of its instances -/
structure ClsOk (S : Sg) (c : Cid) : Prop where
  cls : Cls S.K (S.ca c)
  a1 : PySem.W.findIn S.K (.ref (S.ca c)) "__class__" = some (some (.builtin "object.__class__"))
  a2 : PySem.W.specialIn S.K (.builtin "object.__class__") "__get__" = some (some (.builtin "getset_descriptor.__get__"))
  a3 : PySem.W.takesIn S.K (.builtin "object.__class__") = some true
  a4 : PySem.W.mroIn S.K (S.ca c) (.type "object") = some true
theorem tyx_of {F H : Hp} {x : PV} {v : V} {t : Tg} (s : Same F H) (r : Rep S F x v) (e : tgOf x = some t) (hc : ∀ c, t = .c c → ClsOk S c) : TyX S.K H v (t.v S) := by
  cases x with
  | non => cases e; have r : v = .non := r; subst r; exact .base .non
  | bl b => cases e; have r : v = .bl b := r; subst r; exact .base (.bl b)
  | int b => cases e; have r : v = .int b := r; subst r; exact .base (.int b)
  | str b => cases e; have r : v = .str b := r; subst r; exact .base (.str b)
  | ty b => cases e
  | cls b => cases e
  | exn b => cases e
  | lst xs =>
    cases e
    obtain ⟨a, vs, rfl, h, _⟩ := r
    rcases h with (h | ⟨o, h⟩) | ⟨o, its, n, h1, h2, _⟩
    · exact .base (.lst (s _ _ h))
    · exact .base (.frz (s _ _ h))
    · exact .kList h1 h2
  | tup xs =>
    cases e
    obtain ⟨a, vs, rfl, h, _⟩ := r
    rcases h with (h | ⟨o, h⟩) | ⟨o, its, n, h1, h2, _⟩
    · exact .base (.tup (s _ _ h))
    · exact .fTuple (s _ _ h)
    · exact .kTuple h1 h2
  | dct ks xs =>
    cases e
    obtain ⟨a, od, vs, rfl, h, _⟩ := r
    exact .fDict (s _ _ h)
  | obj c xs =>
    cases e
    obtain ⟨a, dx, vs, rfl, h, _⟩ := r
    have k := hc c rfl
    exact .base (.ins (s _ _ h) k.cls k.a1 k.a2 k.a3 k.a4)
/-- isinstance's answers: tb, by the value's type and the class -/
structure Isi (S : Sg) (cs : List Cid) (tb : Tg → PV → Option Bool) : Prop where
  cls : ∀ c, c ∈ cs → ClsOk S c
  has : ∀ c y k, tb (.c c) y = some k → c ∈ cs
  ok : ∀ (t : Tg) (y : PV) (k : Bool), tb t y = some k → (∃ n, y = .ty n ∧ PySem.W.kitOne S.K (t.v S) (.type n) = some k) ∨ ∃ c, y = .cls c ∧ PySem.W.kitOne S.K (t.v S) (.ref (S.ca c)) = some k
def bIsi (tb : Tg → PV → Option Bool) : List PV → Option PV
  | [x, y] => match tgOf x with
    | some t => (tb t y).map .bl
    | none => none
  | _ => none
theorem b_isi {cs : List Cid} {tb : Tg → PV → Option Bool} (hK : X.K = S.K) (I : Isi S cs tb) : BfR X S (.builtin "isinstance") (bIsi tb) := ⟨_, call_isi, fun F H xs z vs Q s r e k => by
  unfold bIsi at e
  split at e
  · rename_i x y
    split at e
    · rename_i t q
      cases q2 : tb t y with
      | none => rw [q2] at e; cases e
      | some b =>
        rw [q2] at e
        cases e
        obtain ⟨v, w, rfl, hv, hw⟩ := reps2 r
        have ty := tyx_of s hv q (fun c ec => I.cls c (I.has c y b (by rw [← ec]; exact q2)))
        rw [hK]
        rcases I.ok t y b q2 with ⟨n, rfl, h⟩ | ⟨c, rfl, h⟩
        · exact ⟨v, w, _, .type n, b, rfl, by (have hw : w = .ty n := hw); rw [hw]; exact .ty n, ty, h, k _ F H (Gw.rfl' s) rfl⟩
        · exact ⟨v, w, _, .ref (S.ca c), b, rfl, by (have hw : w = .ref (S.ca c) := hw); rw [hw]; exact .own _, ty, h, k _ F H (Gw.rfl' s) rfl⟩
    · cases e
  · cases e⟩
theorem je_ty {x : Str} {n : String} (hm : X.mg x = none) (hv : bootBuiltins x = some (.type n) := by decide +kernel) (hg : Gl X x := by rfl) (hn : x ≠ "__name__" := by decide) (hd : (x == ("__debug__" : Str)) = false := by decide) : JE X S φ W (.Name x pos) (eC (.ty n)) :=
  je_c (pe_bltn (v := .ty n) hg hm hv rfl hn hd) fun _ => rfl

/-! ### len, of what may be held by a slot -/
def lenP : PV → Option Nat
  | .lst xs => some xs.length
  | .tup xs => some xs.length
  | .str x => if x.length ≤ 16777216 then some x.length else none
  | _ => none
def eLen (f : SE) : SE := f.bind fun x => fun ρ => match lenP x with
  | some n => some (.ok (.int n), ρ)
  | none => none
theorem je_len {x : Str} {p : Pos} (hK : X.K = S.K) (hm : X.mg x = none) (ha : JB X S φ W e f) (hv : bootBuiltins x = some (.builtin "len") := by decide +kernel) (hg : Gl X x := by rfl)
    (hn : x ≠ "__name__" := by decide) (hdb : (x == ("__debug__" : Str)) = false := by decide) (he : starEach [e] X.env = (false, eval e X.env) :: starEach [] X.env := by rfl) (hpl : (backTo pos (starEach [] X.env)).any (·.1) = false := by rfl) :
    JE X S φ W (.Call (.Name x p) [e] [] pos) (eLen f) := (pe_callB call_len hg hm hv (pa_cons ha pa_nil he) hn hdb he hpl).imp fun σ H Q ⟨ρ, F, r, s, e1, o⟩ => by
  obtain ⟨r1, e2, o2⟩ := OG.seq e1 o
  refine ⟨ρ, F, r1, s, e2, o2.imp fun x ρ1 F1 H1 s1 m1 ⟨r2, e3, o3⟩ v hv => ?_⟩
  dsimp only at e3
  have fin : ∀ n : Nat, lenP x = some n → LenV X.K v H1 n → ∃ y m, [v] = [y] ∧ LenV X.K y H1 m ∧ Q (.int m) H1 := fun n q h => by
    rw [q] at e3
    cases e3
    exact ⟨v, n, rfl, h, o3 F1 H1 s1 (Same.refl _) _ rfl⟩
  cases x with
  | lst xs =>
    refine fin _ rfl ?_
    rcases hv with hv | ⟨p, rfl, tp⟩
    · obtain ⟨a, vs, rfl, h1, h2⟩ := hv
      exact .inl ⟨vs, hK.symm ▸ SqL.same s1.same h1, h2.length⟩
    · obtain ⟨vs, h1, h2⟩ := tp
      exact .inl ⟨vs, SqL.of h1, h2.length⟩
  | tup xs =>
    refine fin _ rfl ?_
    rcases hv with hv | ⟨p, rfl, tp⟩
    · obtain ⟨a, vs, rfl, h1, h2⟩ := hv
      exact .inr ⟨vs, by rw [hK]; exact SqT.same s1.same h1, h2.length⟩
    · exact tp.elim
  | str x =>
    unfold lenP at e3
    dsimp only at e3
    split at e3
    · rename_i m q
      split at q
      · rename_i hl
        cases q
        rcases hv with hv | ⟨p, rfl, tp⟩
        · have hv : v = .str x := hv
          subst hv
          exact fin _ (show lenP (.str x) = some x.length from if_pos hl) ⟨by rw [sizeLine_eq]; exact hl, rfl⟩
        · exact tp.elim
      · cases q
    · cases e3
  | _ => cases e3
end
end Y

/-! Y7: subscripts, lists, displays, comprehensions. -/
namespace Y
open PySem PySem.Spec L2
open PyProof.Rows (envOfC)
section
variable {X : Cx} {S : Sg} {φ : Fr} {W : WX} {e a b c : Expr} {es : List Expr} {f fa fb fc : SE} {fp : SM (List PV)} {pos : Pos}

/-! ### subscripts -/
def ixP (x : PV) (y : PV) : Option PV := match y with
  | .int i => (match x with
    | .lst xs => atI xs i
    | .tup xs => atI xs i
    | .str z => if z.length ≤ 16777216 then (atI z.cps.toList i).map fun c => .str ⟨#[c]⟩ else none
    | _ => none)
  | _ => none
theorem Reps.atI {F : Hp} {xs : List PV} {vs : List V} {i : Int} {x : PV} (r : Reps S F xs vs) (h : L2.atI xs i = some x) : ∃ v, L2.atI vs i = some v ∧ Rep S F x v := by
  unfold L2.atI at h ⊢
  rw [← r.length]
  cases q : ixN xs.length i with
  | none => rw [q] at h; cases h
  | some j =>
    rw [q] at h
    exact r.get h
theorem ix_of {F H : Hp} {x y z : PV} {v w : V} {Q : VK} (hK : X.K = S.K) (s : Same F H) (rx : Rep S F x v ∨ ∃ p, v = .ref p ∧ Top S F H p x) (ry : Rep S F y w) (e : ixP x y = some z) (q : ∀ u, Rep S F z u → Q u H) : rIx X.K v w H Q := by
  unfold ixP at e
  split at e
  · rename_i i
    have ry : w = .int i := ry
    split at e
    · rename_i xs
      rcases rx with rx | ⟨p, rfl, tp⟩
      · obtain ⟨a, vs, rfl, h1, h2⟩ := rx
        obtain ⟨u, h3, h4⟩ := Reps.atI h2 e
        exact .inl ⟨a, vs, i, u, rfl, ry, hK.symm ▸ SqL.same s h1, h3, q u h4⟩
      · obtain ⟨vs, h1, h2⟩ := tp
        obtain ⟨u, h3, h4⟩ := Reps.atI h2 e
        exact .inl ⟨p, vs, i, u, rfl, ry, SqL.of h1, h3, q u h4⟩
    · rename_i xs
      rcases rx with rx | ⟨p, rfl, tp⟩
      · obtain ⟨a, vs, rfl, h1, h2⟩ := rx
        obtain ⟨u, h3, h4⟩ := Reps.atI h2 e
        exact .inr (.inl ⟨a, vs, i, u, rfl, ry, by rw [hK]; exact SqT.same s h1, h3, q u h4⟩)
      · exact tp.elim
    · rename_i z0
      split at e
      · rename_i hl
        cases q2 : L2.atI z0.cps.toList i with
        | none => rw [q2] at e; cases e
        | some c =>
          rw [q2] at e
          cases e
          rcases rx with rx | ⟨p, rfl, tp⟩
          · have rx : v = .str z0 := rx
            exact .inr (.inr ⟨z0, i, c, rx, ry, by rw [sizeLine_eq]; exact hl, q2, q _ rfl⟩)
          · exact tp.elim
      · cases e
    · cases e
  · cases e
theorem ix_seq' : IxR X (rIx X.K) := IxR.or ix_list (IxR.or ix_tup ix_str)
theorem je_ix (hK : X.K = S.K) (ha : JE X S φ W a fa) (hb : JE X S φ W b fb) (hs : PlainIx b := by exact fun _ _ => rfl) : JE X S φ W (.Subscript a b pos) (eOp ixP fa fb) := (pe_ix ix_seq' ha hb hs).imp fun σ H Q h =>
  two (fun F H x y z v w Q s rx ry e k => ix_of hK s (.inl rx) ry e fun u ru => k u F H (Gw.rfl' s) ru) h
/-- a slot holds something -/
def isB (ρ : Rh) (i : Nat) : Bool := match ρ[i]? with
  | some (.pu _) => true
  | some (.ow _) => true
  | some (.io _) => true
  | _ => false
theorem Stt.isB {σ : L2.St} {F H : Hp} {ρ : Rh} {i : Nat} (s : Stt S φ ρ F σ H) (h : Y.isB ρ i = true) : ∃ v, σ[i]? = some (some v) := by
  unfold Y.isB at h
  split at h
  · rename_i x q
    obtain ⟨v, h1, _⟩ := s.slot i _ q
    exact ⟨v, h1⟩
  · rename_i x q
    obtain ⟨p, h1, _⟩ := s.slot i _ q
    exact ⟨_, h1⟩
  · rename_i x q
    obtain ⟨p, h1, _⟩ := s.slot i _ q
    exact ⟨_, h1⟩
  · cases h
/-- what a slot holds now -/
def heldP (ρ : Rh) (i : Nat) : Option PV := match ρ[i]? with
  | some (.pu x) => some x
  | some (.ow x) => some x
  | some (.io x) => some x
  | _ => none
theorem Stt.held {σ : L2.St} {F H : Hp} {ρ : Rh} {i : Nat} {x : PV} {v : V} (s : Stt S φ ρ F σ H) (h : heldP ρ i = some x) (hv : σ[i]? = some (some v)) : Rep S F x v ∨ ∃ p, v = .ref p ∧ Top S F H p x := by
  unfold heldP at h
  split at h
  · rename_i y q
    cases h
    obtain ⟨w, h1, h2⟩ := s.slot i _ q
    rw [hv] at h1
    cases h1
    exact .inl h2
  · rename_i y q
    cases h
    obtain ⟨p, h1, h2, h3, h4⟩ := s.slot i _ q
    rw [hv] at h1
    cases h1
    exact .inr ⟨p, rfl, h4⟩
  · rename_i y q
    cases h
    obtain ⟨p, h1, h2, h3, h4⟩ := s.slot i _ q
    rw [hv] at h1
    cases h1
    exact .inr ⟨p, rfl, h4⟩
  · cases h
/-- of a name that may hold an object that may be written -/
def eIxV (i : Nat) (fb : SE) : SE := fun ρ => if isB ρ i = true then (fb.bind fun y => fun ρ => match heldP ρ i with
  | some x => (match ixP x y with
    | some z => some (.ok z, ρ)
    | none => none)
  | none => none) ρ else none
theorem je_ixV (i : Nat) {x : Str} {pos' : Pos} (hK : X.K = S.K) (hb : JE X S φ W b fb) (hN : X.N[i]? = some x := by rfl) (hv : Vis X.env.scope x := by first | exact Or.inl rfl | exact Or.inr (Or.inl rfl) | exact Or.inr (Or.inr rfl)) (hs : PlainIx b := by exact fun _ _ => rfl)
    (hd : (x == ("__debug__" : Str)) = false := by decide) (hcd : (x == ("__classdict__" : Str)) = false := by decide) : JE X S φ W (.Subscript (.Name x pos') b pos) (eIxV i fb) := (pe_ix ix_seq' (pe_var hN hv hd hcd) hb hs).imp fun σ H Q ⟨ρ, F, r, s, e1, o⟩ => by
  unfold eIxV at e1
  split at e1
  · rename_i hB
    obtain ⟨r1, e2, o2⟩ := OG.seq e1 o
    obtain ⟨v, hv⟩ := s.isB hB
    refine ⟨v, hv, ρ, F, r1, s, e2, o2.imp fun y ρ1 F1 H1 s1 m1 ⟨r2, e3, o3⟩ w hw => ?_⟩
    dsimp only at e3
    split at e3
    · rename_i x q
      split at e3
      · rename_i z q2
        cases e3
        exact ix_of hK s1.same (s1.held q hv) hw q2 fun u ru => o3 F1 H1 s1 (Same.refl _) u ru
      · cases e3
    · cases e3
  · cases e1

/-! ### lists that a slot may write -/
def mtL (ρ : Rh) (i : Nat) : Option (List PV) := match ρ[i]? with
  | some (.ow (.lst xs)) => some xs
  | some (.io (.lst xs)) => some xs
  | _ => none
def putL (ρ : Rh) (i : Nat) (ys : List PV) : Rh := match ρ[i]? with
  | some t => ρ.set i (t.put (.lst ys))
  | none => ρ
theorem Stt.mtL {σ : L2.St} {F H : Hp} {ρ : Rh} {i : Nat} {xs : List PV} (s : Stt S φ ρ F σ H) (h : Y.mtL ρ i = some xs) : ∃ t p vs, ρ[i]? = some t ∧ t.Mt (.lst xs) ∧ σ[i]? = some (some (.ref p)) ∧ F p = none ∧ H p = some (.lst vs) ∧ Reps S F xs vs := by
  unfold Y.mtL at h
  split at h
  · rename_i ys q
    cases h
    obtain ⟨p, h1, h2, h3, vs, h4, h5⟩ := s.slot i _ q
    exact ⟨_, p, vs, q, .ow _, h1, h2, h4, h5⟩
  · rename_i ys q
    cases h
    obtain ⟨p, h1, h2, h3, vs, h4, h5⟩ := s.slot i _ q
    exact ⟨_, p, vs, q, .io _, h1, h2, h4, h5⟩
  · cases h
theorem Stt.putL {σ : L2.St} {F H : Hp} {ρ : Rh} {i : Nat} {t : Sl} {xs ys : List PV} {p : Addr} {ws : List V} (s : Stt S φ ρ F σ H) (q : ρ[i]? = some t) (m : t.Mt (.lst xs)) (hp : σ[i]? = some (some (.ref p))) (r : Reps S F ys ws) :
    Stt S φ (Y.putL ρ i ys) F σ (upd H p (.lst ws)) := by
  unfold Y.putL
  rw [q]
  exact s.write q m hp fun H' h => ⟨ws, h, r⟩
/-- name[k] = e -/
def setI1 (i : Nat) (x k : PV) : SS := fun ρ => match k with
  | .int j => (match mtL ρ i with
    | some xs => (match ixN xs.length j with
      | some n => some (.nx, putL ρ i (xs.set n x))
      | none => none)
    | none => none)
  | _ => none
def sSetI (i : Nat) (fe fk : SE) : SS := sE fe fun x => fun ρ => if isB ρ i = true then sE fk (setI1 i x) ρ else none
theorem js_seti (i : Nat) {x : Str} {pos' pos2 : Pos} (he : JE X S φ W e fa) (hk : JE X S φ W b fb) (hN : X.N[i]? = some x := by rfl) (hv : Vis X.env.scope x := by first | exact Or.inl rfl | exact Or.inr (Or.inl rfl) | exact Or.inr (Or.inr rfl))
    (hd : (x == ("__debug__" : Str)) = false := by decide) (hcd : (x == ("__classdict__" : Str)) = false := by decide)
    (ha : ∀ v, assign (.Subscript (.Name x pos') b pos2) X.env v = (do
      let ov ← holding [v] (eval (.Name x pos') X.env)
      let iv ← holding [v, ov] (eval b X.env)
      standAt pos2
      holding [v, ov, iv] (setItem ov iv v)
      release [v, ov, iv] []) := by intro _; rfl)
    (hs : swapsWithSole [.Subscript (.Name x pos') b pos2] e pos.line X.env = pure false := by rfl) (hw : swappedStores [.Subscript (.Name x pos') b pos2] e X.env = pure none := by rfl)
    (h1 : (assignEach [.Subscript (.Name x pos') b pos2] X.env).map (·.2) = [assign (.Subscript (.Name x pos') b pos2) X.env] := by rfl) :
    JS X S φ W (.Assign [.Subscript (.Name x pos') b pos2] e pos) (sSetI i fa fb) := (ps_asg he (pg_sub (pe_var hN hv hd hcd) hk set_list ha) hs hw h1).imp fun D σ H ⟨ρ, F, r, s, e1, o⟩ => by
  obtain ⟨r1, e2, o2⟩ := OS.seqE (σ := σ) e1 o
  refine ⟨ρ, F, r1, s, e2, o2.imp fun x ρ1 F1 H1 s1 m1 ⟨r2, e3, o3⟩ v hv => ?_⟩
  split at e3
  · rename_i hB
    obtain ⟨w, hw⟩ := s1.isB hB
    obtain ⟨r3, e4, o4⟩ := OS.seqE (σ := σ) e3 o3
    refine ⟨w, hw, ρ1, F1, r3, s1, e4, o4.imp fun k ρ2 F2 H2 s2 m2 ⟨r4, e5, o5⟩ u hu => ?_⟩
    unfold setI1 at e5
    split at e5
    · rename_i j hh
      cases q : mtL ρ2 i with
      | none => rw [q] at e5; cases e5
      | some xs =>
        rw [q] at e5
        dsimp only at e5
        cases q2 : ixN xs.length j with
        | none => rw [q2] at e5; cases e5
        | some n =>
          rw [q2] at e5
          cases e5
          obtain ⟨t, p, vs, g1, g2, g3, g4, g5, g6⟩ := s2.mtL q
          rw [hw] at g3
          cases g3
          have hu : u = .int j := hu
          exact ⟨p, vs, j, n, rfl, hu, g5, by rw [← g6.length]; exact q2, o5 F2 σ _ (s2.putL g1 g2 hw (Reps.set (Rep.mono m2 _ _ hv) n g6)) (Same.refl _)⟩
    · cases e5
  · cases e3

/-- a method of a list that a slot may write: what it gives, the list behind it -/
def MlR (X : Cx) (S : Sg) (id : String) (op : List PV → List PV → Option (PV × List PV)) : Prop :=
  ∃ r : V → List V → Hp → VK → Prop, MtR X id r ∧ ∀ (F H : Hp) (l : Addr) (xs as ys : List PV) (z : PV) (vs ws : List V) (Q : VK), Same F H → F l = none → H l = some (.lst vs) → Reps S F xs vs → Reps S F as ws → op xs as = some (z, ys) →
    (∀ v vs', Rep S F z v → Reps S F ys vs' → Q v (upd H l (.lst vs'))) → r (.ref l) ws H Q
def eMl (i : Nat) (op : List PV → List PV → Option (PV × List PV)) (fp : SM (List PV)) : SE := fun ρ => if (mtL ρ i).isSome = true then (fp.bind fun as => fun ρ => match mtL ρ i with
  | some xs => (match op xs as with
    | some (z, ys) => some (.ok z, putL ρ i ys)
    | none => none)
  | none => none) ρ else none
theorem ml_red {i : Nat} {op : List PV → List PV → Option (PV × List PV)} {r : V → List V → Hp → VK → Prop}
    (h2 : ∀ (F H : Hp) (l : Addr) (xs as ys : List PV) (z : PV) (vs ws : List V) (Q : VK), Same F H → F l = none → H l = some (.lst vs) → Reps S F xs vs → Reps S F as ws → op xs as = some (z, ys) →
      (∀ v vs', Rep S F z v → Reps S F ys vs' → Q v (upd H l (.lst vs'))) → r (.ref l) ws H Q)
    {σ : L2.St} {H : Hp} {Q : VK} (h : tJ S φ W (eMl i op fp) σ H Q) : tBM X.K "list" r (tVar i) (tP S φ W fp) σ H Q := by
  obtain ⟨ρ, F, z, s, e1, o⟩ := h
  unfold eMl at e1
  split at e1
  · rename_i hB
    obtain ⟨r1, e2, o2⟩ := OG.seq e1 o
    obtain ⟨xs0, q0⟩ := Option.isSome_iff_exists.mp hB
    obtain ⟨t, p, vs, g1, g2, g3, g4, g5, g6⟩ := s.mtL q0
    refine ⟨_, g3, .inl ⟨rfl, _, SqL.of g5⟩, ρ, F, r1, s, e2, o2.imp fun as ρ1 F1 H1 s1 m1 ⟨r2, e3, o3⟩ ws hws => ?_⟩
    dsimp only at e3
    split at e3
    · rename_i xs q
      split at e3
      · rename_i z ys q2
        cases e3
        obtain ⟨t', p', vs', k1, k2, k3, k4, k5, k6⟩ := s1.mtL q
        rw [g3] at k3
        cases k3
        exact h2 F1 H1 p xs as ys z vs' ws Q s1.same k4 k5 k6 hws q2 fun v vs2 rv rvs => o3 F1 _ (s1.putL k1 k2 g3 rvs) (Same.refl _) v rv
      · cases e3
    · cases e3
  · cases e1
theorem je_ml (i : Nat) {x m : Str} {id : String} {apos pos' : Pos} {op : List PV → List PV → Option (PV × List PV)} (pa : PlainAttrs "list") (slot : Slot "list" m id) (hty : typeOf (.builtin id) = pure (.type "method_descriptor")) (hm : MlR X S id op) (ha : JP X S φ W (e :: es) fp)
    (hN : X.N[i]? = some x := by rfl) (hv : Vis X.env.scope x := by first | exact Or.inl rfl | exact Or.inr (Or.inl rfl) | exact Or.inr (Or.inr rfl)) (hd : (x == ("__debug__" : Str)) = false := by decide) (hcd : (x == ("__classdict__" : Str)) = false := by decide)
    (hbase : attributeBase (.Name x pos') m X.env (eval (.Name x pos') X.env) = eval (.Name x pos') X.env := by rfl)
    (hfew : ((backTo pos (starEach (e :: es) X.env)).all (fun x => !x.1) && (backToKw pos (keywordEach [] X.env)).all (fun x => x.1.isSome)
      && decide ((e :: es).length + ([] : List Keyword).length + (if ([] : List Keyword).isEmpty then 0 else 1) < 30)) = true := by rfl)
    (hline : (apos.endLine == pos.line) = true := by rfl) (hs : starEach (e :: es) X.env = (false, eval e X.env) :: starEach es X.env := by rfl) (hplain : (backTo pos (starEach es X.env)).any (·.1) = false := by rfl) :
    JE X S φ W (.Call (.Attribute (.Name x pos') m apos) (e :: es) [] pos) (eMl i op fp) := by
  obtain ⟨r, h1, h2⟩ := hm
  exact (pe_bm pa slot hty h1 (pe_var hN hv hd hcd) ha hbase hfew hline hs hplain).imp fun σ H Q h => ml_red h2 h
def mAppend : List PV → List PV → Option (PV × List PV)
  | xs, [y] => if xs.length < 16777216 then some (.non, xs ++ [y]) else none
  | _, _ => none
theorem ml_append : MlR X S "list.append" mAppend := ⟨_, mt_append, fun F H l xs as ys z vs ws Q s fl hl r ra e k => by
  unfold mAppend at e
  split at e
  · rename_i y
    split at e
    · rename_i hz
      cases e
      obtain ⟨v, rfl, hv⟩ := reps1 ra
      exact ⟨l, vs, v, rfl, rfl, hl, by rw [sizeLine_eq, ← r.length]; exact hz, k .non _ rfl (Reps.append r (Reps.cons hv Reps.nil))⟩
    · cases e
  · cases e⟩
/-- name.append(e) -/
theorem je_append (i : Nat) {x : Str} {apos pos' : Pos} (ha : JE X S φ W e fa) (hN : X.N[i]? = some x := by rfl) (hv : Vis X.env.scope x := by first | exact Or.inl rfl | exact Or.inr (Or.inl rfl) | exact Or.inr (Or.inr rfl)) (hd : (x == ("__debug__" : Str)) = false := by decide) (hcd : (x == ("__classdict__" : Str)) = false := by decide)
    (hbase : attributeBase (.Name x pos') "append" X.env (eval (.Name x pos') X.env) = eval (.Name x pos') X.env := by rfl)
    (hfew : ((backTo pos (starEach [e] X.env)).all (fun x => !x.1) && (backToKw pos (keywordEach [] X.env)).all (fun x => x.1.isSome)
      && decide (([e] : List Expr).length + ([] : List Keyword).length + (if ([] : List Keyword).isEmpty then 0 else 1) < 30)) = true := by rfl)
    (hline : (apos.endLine == pos.line) = true := by rfl) (hs : starEach [e] X.env = (false, eval e X.env) :: starEach [] X.env := by rfl) (hplain : (backTo pos (starEach [] X.env)).any (·.1) = false := by rfl) :
    JE X S φ W (.Call (.Attribute (.Name x pos') "append" apos) [e] [] pos) (eMl i mAppend (pCons fa pNil)) :=
  je_ml i PySem.F.plainAttrs_list PySem.F.slot_list_append PySem.F.type_list_append ml_append (jp_cons ha jp_nil hs) hN hv hd hcd hbase hfew hline hs hplain

/-! ### displays -/
def eTup (fp : SM (List PV)) : SE := fp.bind fun xs => fun ρ => if xs.length ≤ 1000 then some (.ok (.tup xs), ρ) else none
theorem je_tup {k : Nat} (h : JP X S φ W es fp) : JE X S φ W (.Tuple es k pos) (eTup fp) := (pe_tup h).imp fun σ H Q ⟨ρ, F, r, s, e1, o⟩ => by
  obtain ⟨r1, e2, o2⟩ := OG.seq e1 o
  refine ⟨ρ, F, r1, s, e2, o2.imp fun xs ρ1 F1 H1 s1 m1 ⟨r2, e3, o3⟩ vs hvs => ?_⟩
  dsimp only at e3
  split at e3
  · rename_i hl
    cases e3
    refine ⟨by rw [sizeLine_eq, ← hvs.length]; omega, fun p hp => ?_⟩
    have g := Gw.new (o := .tup vs) s1.same hp
    exact o3 _ _ (s1.grow g) g.f _ ⟨p, vs, rfl, SqT.of upd_same, Reps.mono g.f _ _ hvs⟩
  · cases e3
theorem Stt.newOwn {σ : L2.St} {F H : Hp} {ρ : Rh} {p : Addr} {o : HO} (s : Stt S φ ρ F σ H) (hp : H p = none) : Stt S φ ρ F σ (upd H p o) ∧ Nw φ ρ F σ p := by
  refine ⟨s.grow (Gw.newOwn s.same hp), ⟨s.same.free hp, ?_, fun i t x h1 h2 h3 => ?_⟩⟩
  · cases q : φ.H p with
    | none => rfl
    | some u =>
      by_cases ho : p ∈ φ.own
      · exact absurd hp (s.k3 p ho)
      · rw [s.k1 p u q ho] at hp
        cases hp
  · obtain ⟨p', b1, b2, b3, _⟩ := s.mt h1 h2
    rw [h3] at b1
    cases b1
    obtain ⟨u, hu⟩ := b3.there
    rw [hp] at hu
    cases hu
def eLst (fp : SM (List PV)) : SE := fp.bind fun xs => fun ρ => if xs.length ≤ 1000 then some (.ok (.lst xs), ρ) else none
theorem jn_lst (h : JP X S φ W es fp) : JN X S φ W (.List es pos) (eLst fp) := (pe_lst h).imp fun σ H Q ⟨ρ, F, r, s, e1, o⟩ => by
  obtain ⟨r1, e2, o2⟩ := OG.seq e1 o
  refine ⟨ρ, F, r1, s, e2, o2.imp fun xs ρ1 F1 H1 s1 m1 ⟨r2, e3, o3⟩ vs hvs => ?_⟩
  dsimp only at e3
  split at e3
  · rename_i hl
    cases e3
    refine ⟨by rw [sizeLine_eq, ← hvs.length]; omega, fun p hp => ?_⟩
    obtain ⟨s2, nw⟩ := s1.newOwn (o := .lst vs) hp
    exact o3 _ _ s2 (Same.refl _) p nw ⟨vs, upd_same, hvs⟩
  · cases e3
end
end Y

/-! Y8: attributes, methods, new instances. -/
namespace Y
open PySem PySem.Spec L2
open PyProof.Rows (envOfC)

theorem flds_nd : ∀ c : Cid, (flds c).Nodup := by
  intro c
  cases c <;> decide +kernel
theorem lookup_zip {f : Str} : ∀ {l : List Str} {vs : List V} {j : Nat}, l.Nodup → l[j]? = some f → (l.zip vs).lookup f = vs[j]?
  | [], vs, j, _, e => by simp at e
  | a :: l, [], j, _, e => by simp
  | a :: l, v :: vs, 0, _, e => by
    simp at e
    subst e
    simp [List.lookup]
  | a :: l, v :: vs, j + 1, nd, e => by
    have e' : l[j]? = some f := by simpa using e
    have ne : f ≠ a := fun z => (List.nodup_cons.mp nd).1 (by rw [← z]; exact List.mem_of_getElem? e')
    have hb : (f == a) = false := beq_eq_false_iff_ne.mpr ne
    have := lookup_zip (vs := vs) (List.nodup_cons.mp nd).2 e'
    simpa [List.lookup, hb] using this
theorem lookup_zip_none {f : Str} : ∀ {l : List Str} {vs : List V}, f ∉ l → (l.zip vs).lookup f = none
  | [], vs, _ => by simp
  | a :: l, [], _ => by simp
  | a :: l, v :: vs, h => by
    have hb : (f == a) = false := beq_eq_false_iff_ne.mpr fun z => h (by rw [z]; exact List.mem_cons_self)
    have := lookup_zip_none (vs := vs) fun z => h (List.mem_cons_of_mem a z)
    simpa [List.lookup, hb] using this
theorem putF_set {f : Str} {y : V} : ∀ {l : List Str} {vs : List V} {j : Nat}, l.Nodup → l[j]? = some f → j < vs.length → putF f y (l.zip vs) = l.zip (vs.set j y)
  | [], vs, j, _, e, _ => by simp at e
  | a :: l, [], j, _, _, h => by simp at h
  | a :: l, v :: vs, 0, _, e, _ => by
    simp at e
    subst e
    show putF a y ((a, v) :: l.zip vs) = _
    unfold putF
    rw [if_pos rfl]
    rfl
  | a :: l, v :: vs, j + 1, nd, e, h => by
    have e' : l[j]? = some f := by simpa using e
    have ne : a ≠ f := fun z => (List.nodup_cons.mp nd).1 (by rw [z]; exact List.mem_of_getElem? e')
    show putF f y ((a, v) :: l.zip vs) = _
    unfold putF
    rw [if_neg ne, putF_set (List.nodup_cons.mp nd).2 e' (by simpa using h)]
    rfl
theorem putF_new {f : Str} {y : V} : ∀ {l : List Str} {vs : List V}, l.Nodup → l[vs.length]? = some f → putF f y (l.zip vs) = l.zip (vs ++ [y])
  | [], vs, _, e => by simp at e
  | a :: l, [], _, e => by
    simp at e
    subst e
    simp [putF]
  | a :: l, v :: vs, nd, e => by
    have e' : l[vs.length]? = some f := by simpa using e
    have ne : a ≠ f := fun z => (List.nodup_cons.mp nd).1 (by rw [z]; exact List.mem_of_getElem? e')
    show putF f y ((a, v) :: l.zip vs) = _
    unfold putF
    rw [if_neg ne, putF_new (List.nodup_cons.mp nd).2 e']
    rfl

/-- what an argument is now -/
def contAr (ρ : Rh) : Ar → Option PV
  | .pv x => some x
  | .own i => match ρ[i]? with
    | some (.ow x) => some x
    | some (.io x) => some x
    | _ => none
section
variable {X : Cx} {S : Sg} {φ : Fr} {W : WX} {e a b c : Expr} {es : List Expr} {f fa fb fc : SE} {fr : SM Ar} {fs : SM (List Ar)} {pos : Pos}
/-- an instance, of whatever kind of argument -/
theorem Stt.inst {σ : L2.St} {F H : Hp} {ρ : Rh} {a : Ar} {v : V} {c : Cid} {xs : List PV} (s : Stt S φ ρ F σ H) (r : ArR S F σ a v) (e : contAr ρ a = some (.obj c xs)) :
    ∃ p dx vs, v = .ref p ∧ H p = some (.ins (S.ca c) dx ((flds c).zip vs)) ∧ vs.length ≤ (flds c).length ∧ Reps S F xs vs := by
  cases a with
  | pv x =>
    cases e
    obtain ⟨p, dx, vs, h1, h2, h3, h4⟩ := r
    exact ⟨p, dx, vs, h1, s.same _ _ h2, h3, h4⟩
  | own i =>
    unfold contAr at e
    dsimp only at e
    have r : σ[i]? = some (some v) := r
    split at e
    · rename_i y q
      cases e
      obtain ⟨p, h1, h2, ⟨dx, vs, h3, h4, h5⟩, _⟩ := s.mt q (.ow _)
      rw [r] at h1
      cases h1
      exact ⟨p, dx, vs, rfl, h3, h4, h5⟩
    · rename_i y q
      cases e
      obtain ⟨p, h1, h2, ⟨dx, vs, h3, h4, h5⟩, _⟩ := s.mt q (.io _)
      rw [r] at h1
      cases h1
      exact ⟨p, dx, vs, rfl, h3, h4, h5⟩
    · cases e

/-! ### attributes -/
/-- an attribute: a field at a place, a property -/
inductive At where
  | fld (j : Nat) | prop (g : Fn)
structure AttOk (X : Cx) (S : Sg) (f : Str) (c : Cid) (a : At) : Prop where
  cls : Cls S.K (S.ca c)
  at_ : match a with
    | .fld j => NoAttr S.K (S.ca c) f ∧ (flds c)[j]? = some f
    | .prop g => ∃ p ga, PropOf S.K (S.ca c) f p ga ∧ Cal X S ga [] g
def att1 (tab : Cid → Option At) (a : Ar) : SM Sl := fun ρ => match contAr ρ a with
  | some (.obj c xs) => (match tab c with
    | some (.fld j) => (match xs[j]? with
      | some x => some (.ok (.pu x), ρ)
      | none => none)
    | some (.prop g) => (match callG g [] [a] ρ with
      | some (.ok sl, ρ') => some (.ok sl, ρ')
      | _ => none)
    | none => none)
  | _ => none
def eAtt (tab : Cid → Option At) (fr : SM Ar) : SM Sl := fr.bind (att1 tab)
theorem jr_att {n : Str} {tab : Cid → Option At} (hK : X.K = S.K) (h : ∀ c a, tab c = some a → AttOk X S n c a) (ha : JX X S φ W a fr) (hb : attributeBase a n X.env (eval a X.env) = eval a X.env := by rfl) : JR X S φ W (.Attribute a n pos) (eAtt tab fr) := by
  refine ⟨fun pins s0 σ H Q I hq => ?_⟩
  obtain ⟨ρ, F, r, s, e1, o⟩ := hq
  obtain ⟨r1, e2, o2⟩ := OG.seq e1 o
  refine attr_of hb (thn (ha.run pins s0 σ H _ I ⟨ρ, F, r1, s, e2, o2.imp fun a ρ1 F1 H1 s1 m1 ⟨r2, e3, o3⟩ v hv => show ∃ a ρ1 F1 r2, Stt S φ ρ1 F1 σ H1 ∧ ArR S F1 σ a v ∧ att1 tab a ρ1 = some r2 ∧ OG S φ W F1 σ (fun sl ρ' F' H' => ∀ v, RtV S φ ρ' F' σ H' sl v → Q v H') r2 from ⟨a, ρ1, F1, r2, s1, hv, e3, o3⟩⟩) fun u s1 q => ?_)
  obtain ⟨v, H1, I1, rv, a, ρ1, F1, r2, s2, hv, e3, o3⟩ := q
  unfold att1 at e3
  split at e3
  case h_2 => cases e3
  case h_1 c xs q =>
  obtain ⟨p, dx, vs, rfl, h1, h2, h3⟩ := s2.inst hv q
  obtain rfl : u = Value.ref p := rv
  split at e3
  · rename_i j q2
    have ok := h c _ q2
    obtain ⟨n1, n2⟩ := ok.at_
    split at e3
    · rename_i x q3
      cases e3
      obtain ⟨w, hw, rw'⟩ := h3.get q3
      refine getattr_ok I1 h1 (by rw [hK]; exact ok.cls) (by rw [hK]; exact n1) (by rw [lookup_zip (flds_nd c) n2]; exact hw) fun u' s' I' ru => ?_
      exact ⟨w, H1, I', ru, o3 F1 H1 s2 (Same.refl _) w rw'⟩
    · cases e3
  · rename_i g q2
    have ok := h c _ q2
    obtain ⟨p', ga, hp, C⟩ := ok.at_
    obtain ⟨k, fd, ps, ds, dvs, Fn, hr, hbb, hd, hdv⟩ := C.ex
    split at e3
    · rename_i sl ρ' q3
      cases e3
      have hd0 : dvs = [] := hdv F1
      subst hd0
      have sp := call_sp (W := fun _ _ _ _ => False) (as := [a]) (vs := [V.ref p]) (dvs := []) s2 ⟨V.ref p, [], rfl, hv, rfl⟩ (show Reps S F1 [] [] from rfl) q3 (Q := Q) (by exact o3)
      exact getprop_ok I1 h1 (by rw [hK]; exact ok.cls) (by rw [hK]; exact hp) Fn hr hbb hd passL sp
    · cases e3
  · cases e3

/-! ### self.f = e -/
def setF1 (i : Nat) (tab : Cid → Option Nat) (x : PV) : SS := fun ρ => match contAr ρ (.own i), ρ[i]? with
  | some (.obj c xs), some t => (match tab c with
    | some j => if j < xs.length then some (.nx, ρ.set i (t.put (.obj c (xs.set j x)))) else if j = xs.length then some (.nx, ρ.set i (t.put (.obj c (xs ++ [x])))) else none
    | none => none)
  | _, _ => none
def sSetF (i : Nat) (tab : Cid → Option Nat) (fe : SE) : SS := sE fe (setF1 i tab)
theorem js_setf (i : Nat) {x n : Str} {pos' pos2 : Pos} {tab : Cid → Option Nat} (hK : X.K = S.K) (h : ∀ c j, tab c = some j → AttOk X S n c (.fld j)) (he : JE X S φ W e f) (hN : X.N[i]? = some x := by rfl)
    (hv : Vis X.env.scope x := by first | exact Or.inl rfl | exact Or.inr (Or.inl rfl) | exact Or.inr (Or.inr rfl)) (hd : (x == ("__debug__" : Str)) = false := by decide) (hcd : (x == ("__classdict__" : Str)) = false := by decide)
    (hs : swapsWith e (some (.Attribute (.Name x pos') n pos2)) pos.line X.env = pure false := by rfl) : JS X S φ W (.Assign [.Attribute (.Name x pos') n pos2] e pos) (sSetF i tab f) := (ps_fld (pe_var hN hv hd hcd) he hs).imp fun D σ H ⟨ρ, F, r, s, e1, o⟩ => by
  obtain ⟨r1, e2, o2⟩ := OS.seqE (σ := σ) e1 o
  refine ⟨ρ, F, r1, s, e2, o2.imp fun y ρ1 F1 H1 s1 m1 ⟨r2, e3, o3⟩ v hy => ?_⟩
  unfold setF1 at e3
  split at e3
  case h_2 => cases e3
  case h_1 c xs t q qt =>
  have mt : t.Mt (.obj c xs) := by
    unfold contAr at q
    dsimp only at q
    rw [qt] at q
    cases t with
    | un => cases q
    | pu y => cases q
    | ow y => cases q; exact .ow _
    | io y => cases q; exact .io _
  obtain ⟨p, g1, g2, ⟨dx, vs, g3, g4, g5⟩, g6⟩ := s1.mt qt mt
  cases q2 : tab c with
  | none => rw [q2] at e3; cases e3
  | some j =>
    rw [q2] at e3
    dsimp only at e3
    have ok := h c j q2
    obtain ⟨n1, n2⟩ := ok.at_
    have hl : (flds c).length ≤ 900 := by cases c <;> decide
    have hj : j < (flds c).length := (List.getElem?_eq_some_iff.mp n2).1
    refine ⟨_, g1, p, S.ca c, dx, _, rfl, g3, by rw [hK]; exact ok.cls, by rw [hK]; exact n1, by rw [List.length_zip]; omega, ?_⟩
    split at e3
    · rename_i hlt
      cases e3
      rw [putF_set (flds_nd c) n2 (by rw [← g5.length]; exact hlt)]
      exact o3 F1 σ _ (s1.write qt mt g1 fun H' h' => ⟨dx, _, h', by simpa using g4, Reps.set hy j g5⟩) (Same.refl _)
    · split at e3
      · rename_i heq
        cases e3
        rw [g5.length] at heq
        subst heq
        rw [putF_new (flds_nd c) n2]
        exact o3 F1 σ _ (s1.write qt mt g1 fun H' h' => ⟨dx, _, h', by simp; omega, Reps.append g5 (Reps.cons hy Reps.nil)⟩) (Same.refl _)
      · cases e3

/-! ### methods -/
structure MethOk (X : Cx) (S : Sg) (m : Str) (c : Cid) (g : Fn) (dv : List PV) : Prop where
  cls : Cls S.K (S.ca c)
  no : m ∉ flds c
  ex : ∃ f, Meth S.K (S.ca c) m f ∧ Cal X S f dv g
def meth1 (tab : Cid → Option (Fn × List PV)) (fs : SM (List Ar)) (a : Ar) : SM Sl := fun ρ => match contAr ρ a with
  | some (.obj c _) => (match tab c with
    | some (g, dv) => (fs.bind fun as => callG g dv (a :: as)) ρ
    | none => none)
  | _ => none
def eMeth (tab : Cid → Option (Fn × List PV)) (fr : SM Ar) (fs : SM (List Ar)) : SM Sl := fr.bind (meth1 tab fs)
theorem jr_meth {pl : Sem Bool} {m : Str} {apos : Pos} {tab : Cid → Option (Fn × List PV)} (tk : Takes X W) (hK : X.K = S.K) (h : ∀ c g dv, tab c = some (g, dv) → MethOk X S m c g dv) (ha : JX X S φ W a fr) (hs : JA X S φ W (e :: es) fs)
    (hst : starEach (e :: es) X.env = (false, eval e X.env) :: starEach es X.env := by rfl) (hpl : (backTo pos (starEach es X.env)).any (·.1) = false := by rfl)
    (ht : eval (.Call (.Attribute a m apos) (e :: es) [] pos) X.env = (do
      let ov ← eval a X.env
      standAt apos.atName
      let (f, first) ← holding [ov] (getMethod ov m pl)
      callWith pos f first (backTo pos (starEach (e :: es) X.env)) (backToKw pos (keywordEach [] X.env))) := by rfl) : JR X S φ W (.Call (.Attribute a m apos) (e :: es) [] pos) (eMeth tab fr fs) := by
  refine ⟨fun pins s0 σ H Q I hq => ?_⟩
  obtain ⟨ρ, F, r, s, e1, o⟩ := hq
  obtain ⟨r1, e2, o2⟩ := OG.seq e1 o
  refine methcall_of (pl := pl) ha I ⟨ρ, F, r1, s, e2, o2.imp fun a ρ1 F1 H1 s1 m1 ⟨r2, e3, o3⟩ v hv => ?_⟩ ht
  unfold meth1 at e3
  split at e3
  case h_2 => cases e3
  case h_1 c xs q =>
  obtain ⟨p, dx, vs, rfl, h1, h2, h3⟩ := s1.inst hv q
  split at e3
  case h_2 => cases e3
  case h_1 g dv q2 =>
  have ok := h c g dv q2
  obtain ⟨fA, hm, C⟩ := ok.ex
  obtain ⟨k, fd, ps, ds, dvs, Fn, hr, hbb, hd, hdv⟩ := C.ex
  refine ⟨p, S.ca c, dx, _, fA, rfl, h1, by rw [hK]; exact ok.cls, by rw [hK]; exact hm, lookup_zip_none ok.no, fun s1' I1 => ?_⟩
  obtain ⟨r3, e4, o4⟩ := OG.seq e3 o3
  refine PySem.W.callWith_K (first := [.ref p]) (h₀ := X.base) I1.ok.mod.kin (by rw [hK]; exact hm.kp) (thn (hs.run pos pins s1' σ H1 (fun ws H2 => ∃ as ρ2 F2 r4, Stt S φ ρ2 F2 σ H2 ∧ ArR S F2 σ a (.ref p) ∧ ArsR S F2 σ as ws ∧ callG g dv (a :: as) ρ2 = some r4 ∧
    OG S φ W F2 σ (fun sl ρ' F' H' => ∀ v, RtV S φ ρ' F' σ H' sl v → Q v H') r4) I1 ⟨ρ1, F1, r3, s1, e4, o4.imp fun as ρ2 F2 H2 s2 m2 ⟨r4, e5, o5⟩ ws hws => ⟨as, ρ2, F2, r4, s2, hv.mono m2, hws, e5, o5⟩⟩) fun us s2 hh => ?_) hst hpl
  obtain ⟨ws, H2, I2, rws, as, ρ2, F2, r4, t2, hva, hwa, e5, o5⟩ := hh
  exact ⟨I2.kIn, run_fnSD (us := .ref p :: us) (vs := .ref p :: ws) Fn (hr.mono (Nat.le_succ k)) hbb hd (passAt tk σ) I2 (.cons rfl rws) (call_sp (as := a :: as) (vs := .ref p :: ws) t2 ⟨_, _, rfl, hva, hwa⟩ (hdv F2) e5 o5)⟩
theorem jr_meth0 {pl : Sem Bool} {m : Str} {apos : Pos} {tab : Cid → Option (Fn × List PV)} (tk : Takes X W) (hK : X.K = S.K) (h : ∀ c g dv, tab c = some (g, dv) → MethOk X S m c g dv) (ha : JX X S φ W a fr)
    (ht : eval (.Call (.Attribute a m apos) [] [] pos) X.env = (do
      let ov ← eval a X.env
      standAt apos.atName
      let (f, first) ← holding [ov] (getMethod ov m pl)
      callWith pos f first (backTo pos (starEach [] X.env)) (backToKw pos (keywordEach [] X.env))) := by rfl) : JR X S φ W (.Call (.Attribute a m apos) [] [] pos) (eMeth tab fr aNil) := by
  refine ⟨fun pins s0 σ H Q I hq => ?_⟩
  obtain ⟨ρ, F, r, s, e1, o⟩ := hq
  obtain ⟨r1, e2, o2⟩ := OG.seq e1 o
  refine methcall_of (pl := pl) ha I ⟨ρ, F, r1, s, e2, o2.imp fun a ρ1 F1 H1 s1 m1 ⟨r2, e3, o3⟩ v hv => ?_⟩ ht
  unfold meth1 at e3
  split at e3
  case h_2 => cases e3
  case h_1 c xs q =>
  obtain ⟨p, dx, vs, rfl, h1, h2, h3⟩ := s1.inst hv q
  split at e3
  case h_2 => cases e3
  case h_1 g dv q2 =>
  have ok := h c g dv q2
  obtain ⟨fA, hm, C⟩ := ok.ex
  obtain ⟨k, fd, ps, ds, dvs, Fn, hr, hbb, hd, hdv⟩ := C.ex
  refine ⟨p, S.ca c, dx, _, fA, rfl, h1, by rw [hK]; exact ok.cls, by rw [hK]; exact hm, lookup_zip_none ok.no, fun s1' I1 => ?_⟩
  obtain ⟨r3, e4, o4⟩ := OG.seq e3 o3
  cases e4
  obtain ⟨r4, e5, o5⟩ := o4 F1 H1 s1 (Same.refl _)
  exact PySem.W.callWith_K0 (first := [.ref p]) I1.kIn (by rw [hK]; exact hm.kp) (run_fnSD (us := [.ref p]) (vs := [.ref p]) Fn (hr.mono (Nat.le_succ k)) hbb hd (passAt tk σ) I1 (.cons rfl .nil) (call_sp (as := [a]) (vs := [.ref p]) s1 ⟨_, _, rfl, hv, rfl⟩ (hdv F1) e5 o5))
end
end Y

/-! Y9: new instances, raise, ranges, a, b = b, a. -/
namespace Y
open PySem PySem.Spec L2
open PyProof.Rows (envOfC)
section
variable {S : Sg} {φ : Fr} {ρ : Rh} {F F' H H' : Hp} {σ : L2.St}
/-- the slots with one more, that holds a new object -/
theorem Stt.more {p : Addr} {y : PV} (s : Stt S φ ρ F σ H) (nw : Nw φ ρ F σ p) (tp : Top S F H p y) : Stt S φ (ρ ++ [.ow y]) F (σ.take ρ.length ++ [some (.ref p)]) H where
  len := by
    simp only [List.length_append, List.length_take, List.length_singleton]
    have := s.len
    omega
  same := s.same
  fF := s.fF
  k1 := s.k1
  k2 := s.k2
  k3 := s.k3
  slot := fun i t e => by
    have hl : (σ.take ρ.length).length = ρ.length := by
      rw [List.length_take]
      have := s.len
      omega
    by_cases h : i < ρ.length
    · rw [List.getElem?_append_left h] at e
      rw [List.getElem?_append_left (by rw [hl]; exact h), List.getElem?_take_of_lt h]
      exact s.slot i t e
    · by_cases h2 : i = ρ.length
      · subst h2
        rw [List.getElem?_append_right (Nat.le_refl _)] at e
        rw [List.getElem?_append_right (by rw [hl]; exact Nat.le_refl _), hl]
        simp at e
        subst e
        exact ⟨p, by simp, nw.f, nw.h, tp⟩
      · rw [List.getElem?_eq_none (by simp; omega)] at e
        cases e
  sep := fun i j t u x z q a b c d e f => by
    have hl : (σ.take ρ.length).length = ρ.length := by
      rw [List.length_take]
      have := s.len
      omega
    have low : ∀ {k : Nat} {t : Sl}, (ρ ++ [Sl.ow y])[k]? = some t → (k < ρ.length ∧ ρ[k]? = some t ∧ (σ.take ρ.length ++ [some (V.ref p)])[k]? = σ[k]?) ∨ (k = ρ.length ∧ (σ.take ρ.length ++ [some (V.ref p)])[k]? = some (some (.ref p))) := fun {k t} h => by
      by_cases h1 : k < ρ.length
      · rw [List.getElem?_append_left h1] at h
        exact .inl ⟨h1, h, by rw [List.getElem?_append_left (by rw [hl]; exact h1), List.getElem?_take_of_lt h1]⟩
      · by_cases h2 : k = ρ.length
        · subst h2
          exact .inr ⟨rfl, by rw [List.getElem?_append_right (by rw [hl]; exact Nat.le_refl _), hl]; simp⟩
        · rw [List.getElem?_eq_none (by simp; omega)] at h
          cases h
    rcases low a with ⟨i1, i2, i3⟩ | ⟨i1, i3⟩
    · rcases low b with ⟨j1, j2, j3⟩ | ⟨j1, j3⟩
      · rw [i3] at e
        rw [j3] at f
        exact s.sep i j t u x z q i2 j2 c d e f
      · rw [i3] at e
        rw [j3] at f
        cases f
        exact absurd e (nw.no i t x i2 c)
    · rcases low b with ⟨j1, j2, j3⟩ | ⟨j1, j3⟩
      · rw [i3] at e
        cases e
        rw [j3] at f
        exact absurd f (nw.no j u z j2 d)
      · rw [i1, j1]
/-- the one more goes -/
theorem Stt.less {ρ1 : Rh} {t : Sl} {w : Option V} {n : Nat} (s : Stt S φ (ρ1 ++ [t]) F (σ.take n ++ [w]) H) (hn : ρ1.length = n) (hl : n ≤ σ.length) : Stt S φ ρ1 F σ H where
  len := by omega
  same := s.same
  fF := s.fF
  k1 := s.k1
  k2 := s.k2
  k3 := s.k3
  slot := fun i u e => by
    have h : i < ρ1.length := (List.getElem?_eq_some_iff.mp e).1
    have q := s.slot i u (by rw [List.getElem?_append_left h]; exact e)
    have z : (σ.take n ++ [w])[i]? = σ[i]? := by rw [List.getElem?_append_left (by rw [List.length_take]; omega), List.getElem?_take_of_lt (by omega)]
    rw [z] at q
    exact q
  sep := fun i j u v x y p a b c d e f => by
    have h1 : i < ρ1.length := (List.getElem?_eq_some_iff.mp a).1
    have h2 : j < ρ1.length := (List.getElem?_eq_some_iff.mp b).1
    have z : ∀ {k : Nat}, k < ρ1.length → (σ.take n ++ [w])[k]? = σ[k]? := fun {k} hk => by rw [List.getElem?_append_left (by rw [List.length_take]; omega), List.getElem?_take_of_lt (by omega)]
    exact s.sep i j u v x y p (by rw [List.getElem?_append_left h1]; exact a) (by rw [List.getElem?_append_left h2]; exact b) c d (by rw [z h1]; exact e) (by rw [z h2]; exact f)
theorem ArsR.more {w : Option V} {n : Nat} (hn : n ≤ σ.length) : ∀ {as : List Ar} {vs : List V}, (∀ i, i ∈ owns as → i < n) → ArsR S F σ as vs → ArsR S F (σ.take n ++ [w]) as vs
  | [], vs, _, h => h
  | a :: as, vs, hw, h => by
    obtain ⟨v, r, h1, h2, h3⟩ := h
    refine ⟨v, r, h1, ?_, ArsR.more hn (fun i hi => hw i ?_) h3⟩
    · cases a with
      | pv x => exact h2
      | own i =>
        have hi : i < n := hw i List.mem_cons_self
        show (σ.take n ++ [w])[i]? = some (some v)
        rw [List.getElem?_append_left (by rw [List.length_take]; omega), List.getElem?_take_of_lt hi]
        exact h2
    · cases a with
      | pv x => exact hi
      | own j => exact List.mem_cons_of_mem _ hi
end
section
variable {X : Cx} {S : Sg} {φ : Fr} {W : WX} {e a b c : Expr} {es : List Expr} {f fa fb fc : SE} {fr : SM Ar} {fs : SM (List Ar)} {pos : Pos}

/-! ### C(..) -/
def lastW (ρ : Rh) : Option PV := match ρ.getLast? with
  | some (.ow y) => some y
  | _ => none
def make1 (c : Cid) (g : Fn) (dv : List PV) (as : List Ar) : SE := fun ρ => if (owns as).all (fun i => decide (i < ρ.length)) = true then (match callG g dv (.own ρ.length :: as) (ρ ++ [.ow (.obj c [])]) with
  | some (.ok (.pu .non), ρ') => (match lastW ρ' with
    | some y => if ρ'.length = ρ.length + 1 then some (.ok y, ρ'.dropLast) else none
    | none => none)
  | some (.ex x, ρ') => if ρ'.length = ρ.length + 1 then some (.ex x, ρ'.dropLast) else none
  | _ => none) else none
def eMake (c : Cid) (g : Fn) (dv : List PV) (fs : SM (List Ar)) : SE := fs.bind (make1 c g dv)
structure MakeOk (X : Cx) (S : Sg) (c : Cid) (fI : Addr) (g : Fn) (dv : List PV) : Prop where
  mks : Mk S.K (S.ca c) fI
  cal : Cal X S fI dv g
theorem run_mk {pins : List (Addr × Obj)} {σ : L2.St} {H : Hp} {s : Shared} {Q : VK} {us ds : List Value} {vs dvs : List V} {C fI : Addr} {k : Nat} {fd : FuncData} {ps : List Str} {sp : Sp} {E : XK} (M : Mk X.K C fI)
    (Fo : FnOk X.prog X.w X.K X.mg X.base (L2.CX X.prog X.w) k fI fd ps sp) (hr : Room (k + 1) X.A) (hb : Binds X.K fd ps ds) (hd : Vals dvs ds) (hx : PassesAt (L2.CX X.prog X.w) X σ E) (I : Inv X pins σ H s) (r : Vals vs us)
    (h : ∀ x dx, H x = none → H dx = none → dx ≠ x → sp (.ref x :: (vs ++ dvs)) (upd (upd H dx (.own x)) x (.ins C dx [])) (fun v H2 => v = .non ∧ Q (.ref x) H2) E) : wpAny (model X.prog X.w) X.A (call (.ref C) us) (EP X pins σ Q) X.xe s := by
  have hq := h (s.heap.objs.size + 1) s.heap.objs.size (I.hok.fresh (Nat.le_succ _)) (I.hok.fresh (Nat.le_refl _)) (Nat.ne_of_lt (Nat.lt_succ_self s.heap.objs.size))
  have J := Inv.made (C := C) I
  have rr : Vals (V.ref (s.heap.objs.size + 1) :: (vs ++ dvs)) (Value.ref (s.heap.objs.size + 1) :: (us ++ ds)) := .cons rfl (r.append hd)
  have hl : (Value.ref (s.heap.objs.size + 1) :: us ++ ds).length = ps.length := (rr.length.symm.trans (Fo.len _ _ _ _ hq))
  have body := Fo.run _ X.stack _ _ ⟨Value.ref (s.heap.objs.size + 1) :: us, []⟩ (Value.ref (s.heap.objs.size + 1) :: (us ++ ds)) _ _ E (hr.make C us []) (J.env0.make C us []) (hb _ (Value.ref (s.heap.objs.size + 1) :: us) J.kIn hl) rr hq
  refine wpAny_call (make_map (f := fI) I.kIn M.makes M.init (beq_iff_eq.mp M.fn) (codeAny_mono body fun rs s' hq' => ?_))
  cases rs with
  | error er => exact hx pins _ _ er s' J hq'
  | ok fl =>
    cases fl with
    | ret u =>
      obtain ⟨v, H', J2, rv, ev, q3⟩ := J.after hq'
      rw [ev] at rv
      exact ⟨rv, ⟨V.ref (s.heap.objs.size + 1), H', J2, rfl, q3⟩⟩
    | next => exact hq'.elim
    | brk => exact hq'.elim
    | cont => exact hq'.elim
theorem make_sp {c : Cid} {g : Fn} {dv : List PV} {as : List Ar} {σ : L2.St} {H F : Hp} {ρ : Rh} {vs dvs : List V} {Q : VK} {r : Ou PV × Rh} {x dx : Addr} (s : Stt S φ ρ F σ H) (hr : ArsR S F σ as vs) (hd : Reps S F dv dvs) (e : make1 c g dv as ρ = some r)
    (o : OG S φ W F σ (fun y ρ' F' H' => ∀ p, Nw φ ρ' F' σ p → Top S F' H' p y → Q (.ref p) H') r) (hx : H x = none) (hdx : H dx = none) (ne : dx ≠ x) :
    spOf S g (.ref x :: (vs ++ dvs)) (upd (upd H dx (.own x)) x (.ins (S.ca c) dx [])) (fun v H2 => v = .non ∧ Q (.ref x) H2) (WE W σ) := by
  unfold make1 at e
  split at e
  case isFalse => cases e
  case isTrue hall =>
  have hown : ∀ i, i ∈ owns as → i < ρ.length := fun i hi => of_decide_eq_true (List.all_eq_true.mp hall i hi)
  obtain ⟨s1, _⟩ := s.newOwn (o := .own x) hdx
  obtain ⟨s2, nw⟩ := s1.newOwn (p := x) (o := .ins (S.ca c) dx []) (by rw [upd_ne (Ne.symm ne)]; exact hx)
  have tp : Top S F (upd (upd H dx (.own x)) x (.ins (S.ca c) dx [])) x (.obj c []) := ⟨dx, [], by rw [upd_same, List.zip_nil_right], Nat.zero_le _, rfl⟩
  have s3 := s2.more nw tp
  have h1 : ArsR S F (σ.take ρ.length ++ [some (.ref x)]) (.own ρ.length :: as) (.ref x :: vs) := by
    refine ⟨_, _, rfl, ?_, ArsR.more s.len hown hr⟩
    show (σ.take ρ.length ++ [some (V.ref x)])[ρ.length]? = some (some (.ref x))
    rw [List.getElem?_append_right (by rw [List.length_take]; omega), List.length_take, Nat.min_eq_left s.len, Nat.sub_self]
    rfl
  cases q : callG g dv (.own ρ.length :: as) (ρ ++ [.ow (.obj c [])]) with
  | none => rw [q] at e; cases e
  | some z =>
    rw [q] at e
    refine call_sp (W := fun cls d _ H' => W cls d σ H') (vs := .ref x :: vs) (Q := fun v H2 => v = .non ∧ Q (.ref x) H2) s3 h1 hd q ?_
    obtain ⟨a, ρ'⟩ := z
    -- the end: the slots without the one more
    have split_last : ∀ {ρ' : Rh}, ρ'.length = ρ.length + 1 → ∃ t, ρ' = ρ'.dropLast ++ [t] ∧ ρ'.getLast? = some t ∧ ρ'.dropLast.length = ρ.length := fun {ρ'} hl => by
      have hne : ρ' ≠ [] := fun z => by rw [z] at hl; simp at hl
      exact ⟨ρ'.getLast hne, (List.dropLast_concat_getLast hne).symm, List.getLast?_eq_some_getLast hne, by rw [List.length_dropLast]; omega⟩
    cases a with
    | ok sl =>
      intro F' H' s' m v rv
      cases sl with
      | pu y0 =>
        cases y0 with
        | non =>
          have rv : v = .non := rv
          refine ⟨rv, ?_⟩
          dsimp only at e
          cases ql : lastW ρ' with
          | none => rw [ql] at e; cases e
          | some y =>
            rw [ql] at e
            dsimp only at e
            split at e
            · rename_i hl
              cases e
              obtain ⟨t, h2, h3, h4⟩ := split_last hl
              unfold lastW at ql
              rw [h3] at ql
              cases t with
              | ow y' =>
                cases ql
                rw [h2] at s'
                have s5 := s'.less h4 s.len
                have at_ : (ρ'.dropLast ++ [Sl.ow y])[ρ.length]? = some (.ow y) := by rw [List.getElem?_append_right (by omega), h4, Nat.sub_self]; rfl
                have atσ : (σ.take ρ.length ++ [some (V.ref x)])[ρ.length]? = some (some (.ref x)) := by
                  rw [List.getElem?_append_right (by rw [List.length_take]; omega), List.length_take, Nat.min_eq_left s.len, Nat.sub_self]
                  rfl
                obtain ⟨p, g1, g2, g3, g4⟩ := s'.slot _ _ at_
                rw [atσ] at g1
                cases g1
                refine o F' H' s5 m x ⟨g2, g3, fun i t x' a b c => ?_⟩ g4
                have hi : i < ρ'.dropLast.length := (List.getElem?_eq_some_iff.mp a).1
                have hsl := s.len
                have := s'.sep i ρ.length t _ x' y x (by rw [List.getElem?_append_left hi]; exact a) at_ b (.ow y) (by
                  rw [List.getElem?_append_left (by rw [List.length_take]; omega), List.getElem?_take_of_lt (by omega)]
                  exact c) atσ
                omega
              | _ => cases ql
            · cases e
        | _ => cases e
      | _ => cases e
    | ex x0 =>
      dsimp only at e
      split at e
      · rename_i hl
        cases e
        intro d F' H' s' m
        obtain ⟨t, h2, h3, h4⟩ := split_last hl
        rw [h2] at s'
        exact o d F' H' (s'.less h4 s.len) m
      · cases e
theorem jn_make {c : Cid} {fI : Addr} {g : Fn} {dv : List PV} {x : Str} {p : Pos} (tk : Takes X W) (hK : X.K = S.K) (M : MakeOk X S c fI g dv) (hm : X.mg x = some (.ref (S.ca c))) (ha : JA X S φ W (e :: es) fs) (hg : Gl X x := by rfl)
    (hdb : (x == ("__debug__" : Str)) = false := by decide) (he : starEach (e :: es) X.env = (false, eval e X.env) :: starEach es X.env := by rfl) (hpl : (backTo pos (starEach es X.env)).any (·.1) = false := by rfl) :
    JN X S φ W (.Call (.Name x p) (e :: es) [] pos) (eMake c g dv fs) := by
  obtain ⟨k, fd, ps, ds, dvs, Fo, hr, hb, hd, hv⟩ := M.cal.ex
  refine ⟨fun pins s0 σ H Q I hq => ?_⟩
  obtain ⟨ρ, F, r, s, e1, o⟩ := hq
  obtain ⟨r1, e2, o2⟩ := OG.seq e1 o
  refine wpAny_Call_Name_kw (ld_glob I hg hm ?_ hdb)
  refine PySem.W.callWith_K (h₀ := X.base) I.ok.mod.kin (by rw [hK]; exact M.mks.kp) (thn (ha.run pos pins s0 σ H (fun vs H1 => ∃ as ρ1 F1 r2, Stt S φ ρ1 F1 σ H1 ∧ ArsR S F1 σ as vs ∧ make1 c g dv as ρ1 = some r2 ∧ OG S φ W F1 σ (fun y ρ' F' H' => ∀ p, Nw φ ρ' F' σ p → Top S F' H' p y → Q (.ref p) H') r2) I
    ⟨ρ, F, r1, s, e2, o2.imp fun as ρ1 F1 H1 s1 m1 ⟨r2, e3, o3⟩ vs hvs => ⟨as, ρ1, F1, r2, s1, hvs, e3, o3⟩⟩) fun us s1 hh => ?_) he hpl
  obtain ⟨vs, H1, I1, rv, as, ρ1, F1, r2, t1, hvs, e3, o3⟩ := hh
  exact ⟨I1.kIn, run_mk (by rw [hK]; exact M.mks) Fo hr hb hd (passAt tk σ) I1 rv fun x dx hx hdx ne => make_sp t1 hvs (hv F1) e3 o3 hx hdx ne⟩
theorem jn_make0 {c : Cid} {fI : Addr} {g : Fn} {dv : List PV} {x : Str} {p : Pos} (tk : Takes X W) (hK : X.K = S.K) (M : MakeOk X S c fI g dv) (hm : X.mg x = some (.ref (S.ca c))) (hg : Gl X x := by rfl)
    (hdb : (x == ("__debug__" : Str)) = false := by decide) : JN X S φ W (.Call (.Name x p) [] [] pos) (eMake c g dv aNil) := by
  obtain ⟨k, fd, ps, ds, dvs, Fo, hr, hb, hd, hv⟩ := M.cal.ex
  refine ⟨fun pins s0 σ H Q I hq => ?_⟩
  obtain ⟨ρ, F, r, s, e1, o⟩ := hq
  obtain ⟨r1, e2, o2⟩ := OG.seq e1 o
  cases e2
  obtain ⟨r2, e3, o3⟩ := o2 F H s (Same.refl _)
  refine wpAny_Call_Name_kw (ld_glob I hg hm ?_ hdb)
  exact PySem.W.callWith_K0 I.kIn (by rw [hK]; exact M.mks.kp) (run_mk (us := []) (vs := []) (by rw [hK]; exact M.mks) Fo hr hb hd (passAt tk σ) I .nil fun x dx hx hdx ne => make_sp (as := []) (vs := []) s rfl (hv F) e3 o3 hx hdx ne)

/-! ### raise C("..") -/
structure ExcOk (S : Sg) (c : Cid) : Prop where
  ex : PySem.W.excIn S.K (S.ca c) [.type "ValueError", .type "Exception", .type "BaseException", .type "object"] "ValueError.__new__" = true
  kp : PySem.W.keepIn S.K (.ref (S.ca c)) = true
  sb : PySem.W.subIn S.K (.ref (S.ca c)) (.type "BaseException") = some true
  ty : PySem.W.typeIn S.K (.ref (S.ca c)) = some (.type "type")
def sRaise (c : Cid) : SS := fun ρ => some (.ex c, ρ)
theorem js_raise {c : Cid} {x m : Str} {j : Nat} {p p2 p3 : Pos} (hc : X.calm = true) (tk : Takes X W) (hK : X.K = S.K) (E : ExcOk S c) (gC : X.mg x = some (.ref (S.ca c))) (hg : Gl X x := by rfl) (hdb : (x == ("__debug__" : Str)) = false := by decide) :
    JS X S φ W (.Raise (some (.Call (.Name x p) [.Constant (.str m) j p2] [] p3)) none pos) (sRaise c) :=
  (ps_raise hc tk (pmk_own PySem.F.excBase_ValueError (by rw [hK]; exact E.ex) gC (by rw [hK]; exact E.kp) (raises_own (by rw [hK]; exact E.sb) (by rw [hK]; exact E.ty)) hg hdb)).imp fun D σ H ⟨ρ, F, r, s, e1, o⟩ => by
    cases e1
    exact o none F σ H s (Same.refl _)

/-! ### ranges -/
def rngP (lo : Int) (n : Nat) : List PV := (List.range n).map fun i : Nat => PV.int (lo + (i : Int))
theorem wk_rng {F : Hp} {lo : Int} {n : Nat} : Wk S F (rngP lo n) (Itr lo n) where
  go := fun i H s hi => show i < n by simpa [rngP] using hi
  stop := fun i H s hi => show n ≤ i by simpa [rngP] using hi
  yld := fun i F1 H v H' s1 s2 hi ⟨e, q⟩ => by
    subst e
    have hi : i < n := by simpa [rngP] using hi
    exact ⟨.int (lo + i), F1, by simp [rngP, hi], Gw.rfl' s2, q⟩
/-- (its instance is not to be reckoned by the kernel) -/
def RngB (k : Int) : Prop := -(2 ^ 62) ≤ k ∧ k < 2 ^ 62
noncomputable instance (k : Int) : Decidable (RngB k) := Classical.propDecidable _
theorem RngB.of {k : Int} (h1 : -1000000000 < k) (h2 : k < 1000000000) : RngB k := ⟨by omega, by omega⟩
noncomputable def iR1 (fp : SM (List PV)) : SM (List PV) := fp.bind fun xs => fun ρ => match xs with
  | [.int j] => if RngB j then some (.ok (rngP 0 j.toNat), ρ) else none
  | _ => none
theorem ji_range1 {tg : Expr} {p : Pos} (hm : X.mg "range" = none) (ha : JE X S φ W a fa) (hg : Gl X "range" := by rfl) (hs : starEach [a] X.env = [(false, eval a X.env)] := by rfl) : JI X S φ W tg (.Call (.Name "range" p) [a] [] pos) (iR1 (pCons fa pNil)) :=
  (pi_range1 hg hm (jp_cons ha jp_nil hs) hs).imp fun σ H R ⟨ρ, F, r, s, e1, o⟩ => by
    obtain ⟨r1, e2, o2⟩ := OG.seq e1 o
    refine ⟨ρ, F, r1, s, e2, o2.imp fun xs ρ1 F1 H1 s1 m1 ⟨r2, e3, o3⟩ vs hvs => ?_⟩
    dsimp only at e3
    split at e3
    · rename_i j
      split at e3
      · rename_i hj
        cases e3
        obtain ⟨v, rfl, hv⟩ := reps1 hvs
        have hv : v = .int _ := hv
        exact ⟨_, by rw [hv], hj.1, hj.2, o3 F1 H1 s1 (Same.refl _) _ wk_rng⟩
      · cases e3
    · cases e3
noncomputable def iR2 (fp : SM (List PV)) : SM (List PV) := fp.bind fun xs => fun ρ => match xs with
  | [.int i, .int j] => if RngB i ∧ RngB j then some (.ok (rngP i (j - i).toNat), ρ) else none
  | _ => none
theorem ji_range2 {tg : Expr} {p : Pos} (hm : X.mg "range" = none) (ha : JE X S φ W a fa) (hb : JE X S φ W b fb) (hg : Gl X "range" := by rfl) (hs : starEach [a, b] X.env = [(false, eval a X.env), (false, eval b X.env)] := by rfl) (hs2 : starEach [b] X.env = [(false, eval b X.env)] := by rfl) :
    JI X S φ W tg (.Call (.Name "range" p) [a, b] [] pos) (iR2 (pCons fa (pCons fb pNil))) :=
  (pi_range2 hg hm (jp_cons ha (jp_cons hb jp_nil hs2) (by rw [hs, hs2])) hs hs2).imp fun σ H R ⟨ρ, F, r, s, e1, o⟩ => by
    obtain ⟨r1, e2, o2⟩ := OG.seq e1 o
    refine ⟨ρ, F, r1, s, e2, o2.imp fun xs ρ1 F1 H1 s1 m1 ⟨r2, e3, o3⟩ vs hvs => ?_⟩
    dsimp only at e3
    split at e3
    · rename_i i j
      split at e3
      · rename_i hj
        cases e3
        obtain ⟨v, w, rfl, hv, hw⟩ := reps2 hvs
        have hv : v = .int _ := hv
        have hw : w = .int _ := hw
        exact ⟨_, _, by rw [hv, hw], ⟨hj.1.1, hj.1.2, hj.2.1, hj.2.2⟩, o3 F1 H1 s1 (Same.refl _) _ wk_rng⟩
      · cases e3
    · cases e3

/-! ### a, b = x, y -/
def sPar (i j : Nat) (fp : SM (List PV)) : SS := sE fp fun xs => fun ρ => match xs with
  | [x, y] => (match gN i x ρ with
    | some ρ1 => (match gN j y ρ1 with
      | some ρ2 => some (.nx, ρ2)
      | none => none)
    | none => none)
  | _ => none
theorem js_par (i j : Nat) {x y : Str} {px py pt : Pos} {kt k2 : Nat} {pt2 : Pos} (hc : X.calm = true) (hN : X.N.Nodup) (ha : JE X S φ W a fa) (hb : JE X S φ W b fb) (hij : i ≠ j := by decide) (hi : X.N[i]? = some x := by rfl) (hj : X.N[j]? = some y := by rfl)
    (hx : X.env.scope.names.lookup x = some .local := by rfl) (hy : X.env.scope.names.lookup y = some .local := by rfl) (h1 : starEach [a, b] X.env = (false, eval a X.env) :: starEach [b] X.env := by rfl) (h2 : starEach [b] X.env = (false, eval b X.env) :: starEach [] X.env := by rfl)
    (hw : swappedStores [.Tuple [.Name x px, .Name y py] kt pt] (.Tuple [a, b] k2 pt2) X.env = pure (some [x, y]) := by rfl)
    (hs : swapsWithSole [.Tuple [.Name x px, .Name y py] kt pt] (.Tuple [a, b] k2 pt2) pos.line X.env = pure false := by rfl) :
    JS X S φ W (.Assign [.Tuple [.Name x px, .Name y py] kt pt] (.Tuple [a, b] k2 pt2) pos) (sPar i j (pCons fa (pCons fb pNil))) :=
  (ps_par hc hN hi hj hij hx hy (jp_cons ha (jp_cons hb jp_nil h2) h1) hw hs).imp fun D σ H ⟨ρ, F, r, s, e1, o⟩ => by
    obtain ⟨r1, e2, o2⟩ := OS.seqE (σ := σ) e1 o
    refine ⟨ρ, F, r1, s, e2, o2.imp fun xs ρ1 F1 H1 s1 m1 ⟨r2, e3, o3⟩ vs hvs => ?_⟩
    split at e3
    · rename_i x y hh
      cases q : gN i x ρ1 with
      | none => rw [q] at e3; cases e3
      | some ρ2 =>
        rw [q] at e3
        dsimp only at e3
        cases q2 : gN j y ρ2 with
        | none => rw [q2] at e3; cases e3
        | some ρ3 =>
          rw [q2] at e3
          cases e3
          obtain ⟨v, w, rfl, hv, hw⟩ := reps2 hvs
          refine ⟨v, w, rfl, ?_⟩
          unfold gN at q
          split at q
          · cases q
          · cases q
            unfold gN at q2
            split at q2
            · cases q2
            · cases q2
              exact o3 F1 _ H1 ((s1.setPu hv).setPu hw) (Same.refl _)
            · cases q2
          · cases q
    · cases e3
end
end Y

/-! Y10: what the top has written, read by a Hook; the end of a law. -/
namespace Y
open PySem PySem.Spec L2
open PyProof.Rows (envOfC)

def cname : Cid → Str
  | .SaleError => "SaleError" | .InvalidAmount => "InvalidAmount" | .InvalidUrn => "InvalidUrn" | .InvalidRule => "InvalidRule" | .InvalidFact => "InvalidFact" | .InvalidShare => "InvalidShare" | .NotFit => "NotFit"
  | .TooMany => "TooMany" | .InvalidOffer => "InvalidOffer" | .SaleOver => "SaleOver" | .NothingToUndo => "NothingToUndo" | .InvalidText => "InvalidText" | .InvalidCommand => "InvalidCommand" | .NotReady => "NotReady"
  | .Amount => "Amount" | .Urn => "Urn" | .Rule => "Rule" | .Threshold => "Threshold" | .Falling => "Falling" | .After => "After" | .Balance => "Balance" | .Fact => "Fact" | .Sale => "Sale" | .Console => "Console" | .Other => "_other"
def sgOf (K : PySem.W.Frag) : Sg := ⟨K, fun c => He.ga K (cname c)⟩

/-- a fact that the kernel reckons -/
abbrev Kf := PySem.W.Frag → Bool
def dec (p : PySem.W.Frag → Prop) [∀ K, Decidable (p K)] : Kf := fun K => decide (p K)
theorem dec_ok {p : PySem.W.Frag → Prop} [∀ K, Decidable (p K)] {K : PySem.W.Frag} (h : dec p K = true) : p K := of_decide_eq_true h
def kGlo (x : Str) : Kf := (He.Fa.glo x).ok
def kFree (x : Str) : Kf := fun K => He.Fa.ok K (.free x)
def fK (f : He.Fa) : Kf := fun K => f.ok K
/-- the class is plain, and isinstance reads it -/
def kCls (c : Cid) : Kf := fun K => He.Fa.ok K (.cls (cname c)) && (He.eqO (PySem.W.findIn K (.ref (He.ga K (cname c))) "__class__") (some (some (.builtin "object.__class__"))) &&
  (He.eqO (PySem.W.specialIn K (.builtin "object.__class__") "__get__") (some (some (.builtin "getset_descriptor.__get__"))) && (decide (PySem.W.takesIn K (.builtin "object.__class__") = some true) && decide (PySem.W.mroIn K (He.ga K (cname c)) (.type "object") = some true))))
theorem kCls_ok {K : PySem.W.Frag} {c : Cid} (h : kCls c K = true) : ClsOk (sgOf K) c := by
  obtain ⟨h1, h⟩ := He.ba h
  obtain ⟨h2, h⟩ := He.ba h
  obtain ⟨h3, h⟩ := He.ba h
  obtain ⟨h4, h5⟩ := He.ba h
  exact ⟨He.cls_ok h1, He.eqO_ok h2, He.eqO_ok h3, of_decide_eq_true h4, of_decide_eq_true h5⟩
/-- where a class's attribute stands -/
def pa (K : PySem.W.Frag) (c : Cid) (f : Str) : Addr := He.ma K (He.ga K (cname c)) f
/-- a property's getter -/
def pg (K : PySem.W.Frag) (c : Cid) (f : Str) : Addr := match PySem.W.recIn K (pa K c f) "property" with
  | some (.ref g :: _) => g
  | _ => 0
def kProp (c : Cid) (f : Str) : Kf := fun K => He.eqO (PySem.W.findIn K (.ref (He.ga K (cname c))) f) (some (some (.ref (pa K c f)))) && (He.eqO (PySem.W.specialIn K (.ref (pa K c f)) "__get__") (some (some (.builtin "property.__get__"))) &&
  (decide (PySem.W.takesIn K (.ref (pa K c f)) = some true) && (match PySem.W.recIn K (pa K c f) "property" with
    | some (.ref _ :: _) => true
    | _ => false)))
theorem kProp_ok {K : PySem.W.Frag} {c : Cid} {f : Str} (h : kProp c f K = true) : PropOf K (He.ga K (cname c)) f (pa K c f) (pg K c f) := by
  obtain ⟨h1, h⟩ := He.ba h
  obtain ⟨h2, h⟩ := He.ba h
  obtain ⟨h3, h4⟩ := He.ba h
  refine ⟨He.eqO_ok h1, He.eqO_ok h2, of_decide_eq_true h3, ?_⟩
  unfold pg
  split at h4
  · rename_i g r q
    rw [q]
    exact ⟨r, rfl⟩
  · cases h4

/-! ### defs -/
/-- where a def stands: a module's name; a class's method; a class's property's getter -/
inductive Wh where
  | fn (x : Str) | mt (c : Cid) (m : Str) | pr (c : Cid) (m : Str)
def Wh.ad (K : PySem.W.Frag) : Wh → Addr
  | .fn x => He.ga K x
  | .mt c m => pa K c m
  | .pr c m => pg K c m
/-- a def of the text: where, its qualified name, its statement, its defaults -/
structure Df where
  wh : Wh
  name : Str
  qual : Str
  st : Stmt
  dfl : List He.Dv := []
  kwd : List (Str × He.Dv) := []
def Df.val (d : Df) : He.FnW := some (d.name, d.qual, defArgs d.st, .stmts (defBody d.st), defScope d.st, mainGlobals, [], builtinsNs)
def dfW (K : PySem.W.Frag) (d : Df) : He.FnW := match K.lookup (d.wh.ad K) with
  | some ⟨_, _, .func fd, _⟩ => some (fd.name, fd.qualname, fd.params, fd.body, fd.scope, fd.globals, fd.closure, fd.builtins)
  | _ => none
def Df.ok (K : PySem.W.Frag) (d : Df) : Bool := PySem.W.keepIn K (.ref (d.wh.ad K)) && (match K.lookup (d.wh.ad K) with
  | some ⟨_, _, .func fd, _⟩ => PySem.W.codeIn K fd.code d.qual && (He.dflB K fd.defaults (d.dfl.map (He.Dv.v K)) && He.kwdB K fd.kwdefaults (d.kwd.map fun q => (q.1, q.2.v K)))
  | _ => false)
abbrev DfD (K : PySem.W.Frag) (d : Df) (fd : FuncData) : Prop := FunD K d.name d.qual (defArgs d.st) (defBody d.st) (defScope d.st) (d.dfl.map (He.Dv.v K)) (d.kwd.map fun q => (q.1, q.2.v K)) (d.wh.ad K) fd
theorem Df.funD {K : PySem.W.Frag} {d : Df} (e : dfW K d = d.val) (c : d.ok K = true) : ∃ fd, DfD K d fd := by
  obtain ⟨kp, c2⟩ := He.ba c
  unfold dfW at e
  cases q : K.lookup (d.wh.ad K) with
  | none =>
    rw [q] at c2
    cases c2
  | some o =>
    obtain ⟨oc, od, dt, osl⟩ := o
    rw [q] at c2 e
    cases dt with
    | func fd =>
      obtain ⟨n1, n2, n3, n4, n5, n6, n7, n8, n9, n10, n11, n12, n13, n14, n15⟩ := fd
      have e2 : (some (n1, n2, n3, n4, n5, n6, n7, n15) : He.FnW) = some (d.name, d.qual, defArgs d.st, .stmts (defBody d.st), defScope d.st, mainGlobals, [], builtinsNs) := e
      simp only [Option.some.injEq, Prod.mk.injEq] at e2
      obtain ⟨h1, h2, h3, h4, h5, h6, h7, h8⟩ := e2
      subst h1 h2 h3 h4 h5 h6 h7 h8
      obtain ⟨k1, k2⟩ := He.ba (show (PySem.W.codeIn K n13 d.qual && (He.dflB K n8 (d.dfl.map (He.Dv.v K)) && He.kwdB K n9 (d.kwd.map fun q => (q.1, q.2.v K)))) = true from c2)
      obtain ⟨k3, k4⟩ := He.ba k2
      exact ⟨_, ⟨oc, od, n8, n9, n10, n11, n12, n13, n14, osl, rfl, q, k1, He.dflB_ok k3, He.kwdB_ok k4⟩, kp⟩
    | _ => cases c2

/-! ### the Hook -/
abbrev AlY : Type := Bool × List He.FnW
def obsY (fb : List Kf) (fn : List Df) (K : PySem.W.Frag) : AlY := ((fb.all fun f => f K) && fn.all fun d => d.ok K, fn.map fun d => dfW K d)
def valY (fn : List Df) : AlY := (true, fn.map Df.val)
def SaysY (fb : List Kf) (fn : List Df) (K : PySem.W.Frag) : Prop := obsY fb fn K = valY fn
def obsYG (n : Nat) (fb : List Kf) (fn : List Df) (g : Addr → Option Obj) : AlY := obsY fb fn (He.frG g (He.asD g n))
def hookY (n : Nat) (fb : List Kf) (fn : List Df) : PySem.W.Hook where
  α := AlY
  obs := fun s => obsYG n fb fn s.heap.get?
  val := fun _ => valY fn
  says := fun _ h => ∃ K : PySem.W.Frag, K.In h ∧ SaysY fb fn K
  of := fun _ _ e => ⟨_, He.frG_in, e⟩
  keeps := fun _ _ _ ⟨K, hK, c⟩ k => ⟨K, PySem.W.Frag.In.keeps hK k, c⟩
theorem obsYG_eq {n : Nat} {fb : List Kf} {fn : List Df} {g : Addr → Option Obj} {s : Shared} (h : ∀ a, g a = s.heap.get? a) : obsYG n fb fn g = (hookY n fb fn).obs s := by
  have e : g = s.heap.get? := funext h
  rw [e] <;> rfl
section
variable {fb : List Kf} {fn : List Df} {K : PySem.W.Frag}
theorem SaysY.fact (c : SaysY fb fn K) (i : Nat) {f : Kf} (h : fb[i]? = some f := by rfl) : f K = true := by
  have c1 := (He.ba (show ((fb.all fun f => f K) && fn.all fun d => d.ok K) = true from congrArg (fun z : AlY => z.1) c)).1
  exact List.all_eq_true.mp c1 f (List.mem_of_getElem? h)
theorem SaysY.def_ (c : SaysY fb fn K) (i : Nat) {d : Df} (h : fn[i]? = some d := by rfl) : ∃ fd, DfD K d fd := by
  have c2 := (He.ba (show ((fb.all fun f => f K) && fn.all fun d => d.ok K) = true from congrArg (fun z : AlY => z.1) c)).2
  have e : fn.map (fun d => dfW K d) = fn.map Df.val := congrArg (fun z : AlY => z.2) c
  have e2 : (fn.map fun d => dfW K d)[i]? = (fn.map Df.val)[i]? := by rw [e]
  rw [List.getElem?_map, List.getElem?_map, h] at e2
  exact Df.funD (Option.some.inj e2) (List.all_eq_true.mp c2 d (List.mem_of_getElem? h))
end

/-! ### a def that may be called -/
structure Dn (P : Program) (w : World) (S : Sg) (mg : Str → Option Value) (base : Heap) (k : Nat) (f : Addr) (dv : List PV) (g : Fn) : Prop where
  kp : PySem.W.keepIn S.K (.ref f) = true
  ex : ∃ (fd : FuncData) (ps : List Str) (ds : List Value) (dvs : List V), FnOk P w S.K mg base (L2.CX P w) k f fd ps (spOf S g) ∧ Binds S.K fd ps ds ∧ Vals dvs ds ∧ ∀ F, Reps S F dv dvs
theorem Dn.cal {P : Program} {w : World} {S : Sg} {mg : Str → Option Value} {base : Heap} {k j : Nat} {f : Addr} {dv : List PV} {g : Fn} {X : Cx} (D : Dn P w S mg base k f dv g) (hr : Room j X.A) (hk : k + 1 ≤ j := by decide)
    (h1 : X.prog = P := by rfl) (h2 : X.w = w := by rfl) (h3 : X.K = S.K := by rfl) (h4 : X.mg = mg := by rfl) (h5 : X.base = base := by rfl) : Cal X S f dv g := by
  obtain ⟨fd, ps, ds, dvs, F, b, v, r⟩ := D.ex
  subst h1 h2 h4 h5
  refine ⟨k, fd, ps, ds, dvs, ?_, hr.mono hk, by rw [h3]; exact b, v, r⟩
  rw [h3]
  exact F
/-- its parameters are all given -/
theorem dn_of {P : Program} {w : World} {S : Sg} {mg : Str → Option Value} {base : Heap} {k n : Nat} {N ps : List Str} {b : SS} {d : Df} {fd : FuncData} (Fd : DfD S.K d fd) (hd : d.dfl = []) (hk : d.kwd = []) (Sc : FnScope N ps (defScope d.st)) (hn : ps.length + n = N.length)
    (hb : ∀ (kV doc pm : Value) (an : Option Addr) (cdv ct : Value) (us : List Value), us.length = ps.length → bindArgs (PySem.W.fnOf d.name d.qual (defArgs d.st) (defBody d.st) (defScope d.st) .none kV doc pm an cdv ct) ⟨us, []⟩ = pure (ps.zip us))
    (h : ∀ (cdv : Value) (A : Around) (outer : List PySem.Env) (s : Shared) (H : Hp) (E : XK) (φ : Fr), Room k (A.deeper (envOfC d.qual (defScope d.st) s.heap.objs.size (d.wh.ad S.K) cdv)) →
      JSs (cxOf (L2.CX P w) P w S.K mg base N d.qual (defScope d.st) (d.wh.ad S.K) cdv A outer s H E) S φ (fun cls d _ H' => E cls d H') (defBody d.st) b) : Dn P w S mg base (k + 1) (d.wh.ad S.K) [] (fnOf ps.length n b) := by
  have Fd' : FunD S.K d.name d.qual (defArgs d.st) (defBody d.st) (defScope d.st) [] (d.kwd.map fun q => (q.1, q.2.v S.K)) (d.wh.ad S.K) fd := by
    have q := Fd
    unfold DfD at q
    rw [hd] at q
    exact q
  exact ⟨Fd.kp, fd, ps, [], [], fn_sem Fd Sc hn h, Fd'.bindsN hb, .nil, fun _ => rfl⟩
end Y

/-! Y11: isinstance's table; tables of attributes and methods. -/
namespace Y
open PySem PySem.Spec L2
open PyProof.Rows (envOfC)

def bnames : List String := ["NoneType", "bool", "int", "str", "list", "tuple", "dict"]
/-- own classes: all are SaleErrors or plain; a rule is a Rule -/
def subC : Cid → Cid → Bool
  | .Threshold, .Rule => true
  | .Falling, .Rule => true
  | .After, .Rule => true
  | _, _ => false
def isiT (cs : List Cid) : Tg → PV → Option Bool
  | .b n, .ty m => if n ∈ bnames ∧ m ∈ bnames then some (decide (n = m) || (decide (n = "bool") && decide (m = "int"))) else none
  | .b n, .cls c => if n ∈ bnames ∧ c ∈ cs then some false else none
  | .c c, .ty m => if c ∈ cs ∧ m ∈ bnames then some false else none
  | .c c, .cls d => if c ∈ cs ∧ d ∈ cs then some (decide (c = d) || subC c d) else none
  | _, _ => none
def kIsi (cs : List Cid) : Kf := fun K =>
  (bnames.all fun n => bnames.all fun m => decide (PySem.W.kitOne K (.type n) (.type m) = some (decide (n = m) || (decide (n = "bool") && decide (m = "int"))))) &&
  ((bnames.all fun n => cs.all fun c => decide (PySem.W.kitOne K (.type n) (.ref (He.ga K (cname c))) = some false)) &&
  ((bnames.all fun n => cs.all fun c => decide (PySem.W.kitOne K (.ref (He.ga K (cname c))) (.type n) = some false)) &&
  ((cs.all fun c => cs.all fun d => decide (PySem.W.kitOne K (.ref (He.ga K (cname c))) (.ref (He.ga K (cname d))) = some (decide (c = d) || subC c d))) && cs.all fun c => kCls c K)))
theorem kIsi_ok {K : PySem.W.Frag} {cs : List Cid} (h : kIsi cs K = true) : Isi (sgOf K) cs (isiT cs) := by
  obtain ⟨h1, h⟩ := He.ba h
  obtain ⟨h2, h⟩ := He.ba h
  obtain ⟨h3, h⟩ := He.ba h
  obtain ⟨h4, h5⟩ := He.ba h
  refine ⟨fun c hc => kCls_ok (List.all_eq_true.mp h5 c hc), fun c y k e => ?_, fun t y k e => ?_⟩
  · unfold isiT at e
    cases y with
    | ty m =>
      dsimp only at e
      split at e
      · rename_i q; exact q.1
      · cases e
    | cls d =>
      dsimp only at e
      split at e
      · rename_i q; exact q.1
      · cases e
    | _ => cases e
  · unfold isiT at e
    cases t with
    | b n =>
      cases y with
      | ty m =>
        dsimp only at e
        split at e
        · rename_i q
          cases e
          exact .inl ⟨m, rfl, of_decide_eq_true (List.all_eq_true.mp (List.all_eq_true.mp h1 n q.1) m q.2)⟩
        · cases e
      | cls c =>
        dsimp only at e
        split at e
        · rename_i q
          cases e
          exact .inr ⟨c, rfl, of_decide_eq_true (List.all_eq_true.mp (List.all_eq_true.mp h2 n q.1) c q.2)⟩
        · cases e
      | _ => cases e
    | c c0 =>
      cases y with
      | ty m =>
        dsimp only at e
        split at e
        · rename_i q
          cases e
          exact .inl ⟨m, rfl, of_decide_eq_true (List.all_eq_true.mp (List.all_eq_true.mp h3 m q.2) c0 q.1)⟩
        · cases e
      | cls d =>
        dsimp only at e
        split at e
        · rename_i q
          cases e
          exact .inr ⟨d, rfl, of_decide_eq_true (List.all_eq_true.mp (List.all_eq_true.mp h4 c0 q.1) d q.2)⟩
        · cases e
      | _ => cases e

/-! ### tables -/
def atL (l : List (Cid × At)) : Cid → Option At := fun c => l.lookup c
def mtT (l : List (Cid × (Fn × List PV))) : Cid → Option (Fn × List PV) := fun c => l.lookup c
def fiL (l : List (Cid × Nat)) : Cid → Option Nat := fun c => l.lookup c
section
variable {X : Cx} {S : Sg} {n : Str}
theorem at_nil : ∀ c a, atL [] c = some a → AttOk X S n c a := fun c a e => by cases e
theorem at_cons {c0 : Cid} {a0 : At} {l : List (Cid × At)} (h : AttOk X S n c0 a0) (t : ∀ c a, atL l c = some a → AttOk X S n c a) : ∀ c a, atL ((c0, a0) :: l) c = some a → AttOk X S n c a := fun c a e => by
  unfold atL at e
  rw [List.lookup_cons] at e
  split at e
  · rename_i q
    cases e
    have q2 := beq_iff_eq.mp q
    subst q2
    exact h
  · exact t c a e
theorem mt_nil : ∀ c g dv, mtT [] c = some (g, dv) → MethOk X S n c g dv := fun c g dv e => by cases e
theorem mt_cons {c0 : Cid} {g0 : Fn} {dv0 : List PV} {l : List (Cid × (Fn × List PV))} (h : MethOk X S n c0 g0 dv0) (t : ∀ c g dv, mtT l c = some (g, dv) → MethOk X S n c g dv) : ∀ c g dv, mtT ((c0, (g0, dv0)) :: l) c = some (g, dv) → MethOk X S n c g dv := fun c g dv e => by
  unfold mtT at e
  rw [List.lookup_cons] at e
  split at e
  · rename_i q
    cases e
    have q2 := beq_iff_eq.mp q
    subst q2
    exact h
  · exact t c g dv e
theorem fi_nil : ∀ c j, fiL [] c = some j → AttOk X S n c (.fld j) := fun c a e => by cases e
theorem fi_cons {c0 : Cid} {j0 : Nat} {l : List (Cid × Nat)} (h : AttOk X S n c0 (.fld j0)) (t : ∀ c j, fiL l c = some j → AttOk X S n c (.fld j)) : ∀ c j, fiL ((c0, j0) :: l) c = some j → AttOk X S n c (.fld j) := fun c a e => by
  unfold fiL at e
  rw [List.lookup_cons] at e
  split at e
  · rename_i q
    cases e
    have q2 := beq_iff_eq.mp q
    subst q2
    exact h
  · exact t c a e
end
end Y

/-! Y12: a call with one new object; a law's end. -/
namespace Y
open PySem PySem.Spec L2
open PyProof.Rows (envOfC)

def callT (g : Fn) (dv : List PV) (x : PV) : SM Sl := fun ρ => match callG g dv [.own ρ.length] (ρ ++ [.ow x]) with
  | some (r, ρ') => if ρ'.length = ρ.length + 1 then some (r, ρ'.dropLast) else none
  | none => none
def eCallT (g : Fn) (dv : List PV) (fa : SE) : SM Sl := fa.bind (callT g dv)
section
variable {X : Cx} {S : Sg} {φ : Fr} {W : WX} {e a b c : Expr} {es : List Expr} {f fa fb fc : SE} {pos : Pos}
theorem callT_sp {g : Fn} {dv : List PV} {σ : L2.St} {H F : Hp} {ρ : Rh} {dvs : List V} {Q : VK} {r : Ou Sl × Rh} {y : PV} {x : Addr} (s : Stt S φ ρ F σ H) (nw : Nw φ ρ F σ x) (tp : Top S F H x y) (hd : Reps S F dv dvs) (e : callT g dv y ρ = some r)
    (o : OG S φ W F σ (fun sl ρ' F' H' => ∀ v, RtV S φ ρ' F' σ H' sl v → Q v H') r) : spOf S g ([.ref x] ++ dvs) H Q (WE W σ) := by
  unfold callT at e
  have s3 := s.more nw tp
  have h1 : ArsR S F (σ.take ρ.length ++ [some (.ref x)]) [.own ρ.length] [.ref x] := by
    refine ⟨_, _, rfl, ?_, rfl⟩
    show (σ.take ρ.length ++ [some (V.ref x)])[ρ.length]? = some (some (.ref x))
    rw [List.getElem?_append_right (by rw [List.length_take]; have := s.len; omega), List.length_take, Nat.min_eq_left s.len, Nat.sub_self]
    rfl
  cases q : callG g dv [.own ρ.length] (ρ ++ [.ow y]) with
  | none => rw [q] at e; cases e
  | some z =>
    rw [q] at e
    refine call_sp (W := fun cls d _ H' => W cls d σ H') (vs := [.ref x]) (Q := Q) s3 h1 hd q ?_
    obtain ⟨a, ρ'⟩ := z
    dsimp only at e
    split at e
    case isFalse => cases e
    case isTrue hl =>
    cases e
    have hne : ρ' ≠ [] := fun z => by rw [z] at hl; simp at hl
    have h2 : ρ' = ρ'.dropLast ++ [ρ'.getLast hne] := (List.dropLast_concat_getLast hne).symm
    have h4 : ρ'.dropLast.length = ρ.length := by rw [List.length_dropLast]; omega
    cases a with
    | ok sl =>
      intro F' H' s' m v rv
      rw [h2] at s' rv
      refine o F' H' (s'.less h4 s.len) m v ?_
      cases sl with
      | pu z => exact rv
      | ow z =>
        obtain ⟨p, e1, ⟨n1, n2, n3⟩, e3⟩ := rv
        refine ⟨p, e1, ⟨n1, n2, fun i t w h5 h6 h7 => ?_⟩, e3⟩
        have hi : i < ρ'.dropLast.length := (List.getElem?_eq_some_iff.mp h5).1
        refine n3 i t w (by rw [List.getElem?_append_left hi]; exact h5) h6 ?_
        rw [List.getElem?_append_left (by rw [List.length_take]; have := s.len; omega), List.getElem?_take_of_lt (by omega)]
        exact h7
      | _ => exact rv
    | ex c =>
      intro d F' H' s' m
      rw [h2] at s'
      exact o d F' H' (s'.less h4 s.len) m
/-- f(a), a new -/
theorem jr_callT {fA : Addr} {dv : List PV} {g : Fn} {x : Str} {p : Pos} (tk : Takes X W) (C : Cal X S fA dv g) (hm : X.mg x = some (.ref fA)) (hk : PySem.W.keepIn X.K (.ref fA) = true) (ha : JN X S φ W a fa) (hg : Gl X x := by rfl)
    (hdb : (x == ("__debug__" : Str)) = false := by decide) (he : starEach [a] X.env = (false, eval a X.env) :: starEach [] X.env := by rfl) (hpl : (backTo pos (starEach [] X.env)).any (·.1) = false := by rfl) :
    JR X S φ W (.Call (.Name x p) [a] [] pos) (eCallT g dv fa) := by
  obtain ⟨k, fd, ps, ds, dvs, F, hr, hb, hd, hv⟩ := C.ex
  refine (pe_callSD F (hr.mono (Nat.le_succ k)) hg hm hk hb hd (fun σ => passAt tk σ) (pa_cons ha pa_nil he) hdb he hpl).imp fun σ H Q ⟨ρ, F, r, s, e1, o⟩ => ?_
  obtain ⟨r1, e2, o2⟩ := OG.seq e1 o
  exact ⟨ρ, F, r1, s, e2, o2.imp fun y ρ1 F1 H1 s1 m1 ⟨r2, e3, o3⟩ p nw tp => callT_sp s1 nw tp (hv F1) e3 o3⟩
end

/-! ### a law's end -/
/-- the answer of a law's def at ns is True -/
def Tru (g : Fn) (ns : List Int) : Prop := ∃ args', g [.pu (.lst (ns.map .int))] = some (.ok (.pu (.bl true)), args')
theorem reps_ints {S : Sg} {F : Hp} : ∀ (ns : List Int), Reps S F (ns.map .int) (ns.map V.int)
  | [] => rfl
  | n :: ns => ⟨V.int n, ns.map V.int, rfl, rfl, reps_ints ns⟩
theorem sp_law {S : Sg} {g : Fn} {ns : List Int} {H : Hp} {a : Addr} (h : Tru g ns) (hS : SqL S.K H a (ns.map V.int)) : spOf S g [.ref a] H (fun v _ => v = .bl true) fun _ _ _ => False := by
  obtain ⟨args', e⟩ := h
  refine ⟨H, [.pu (.lst (ns.map .int))], _, Same.refl _, ⟨.ref a, [], rfl, ⟨a, _, rfl, hS, reps_ints ns⟩, rfl⟩, fun i j p h1 h2 => ?_, e, fun v F' H' af rv => rv⟩
  obtain ⟨x, y, _⟩ := pinOf_get h1
  cases i with
  | zero => cases y
  | succ i => simp at y
end Y

/-! Y13: defs with defaults; short names for the generated part. -/
namespace Y
open PySem PySem.Spec L2
open PyProof.Rows (envOfC)

/-- so many turns as the number in slot i tells, and one -/
def fuI (i : Nat) : Rh → Nat := fun ρ => match ρ[i]? with
  | some (.pu (.int n)) => n.natAbs + 1
  | _ => 0
/-- the j-th method of a class's statement -/
def meth (s : Stmt) (j : Nat) : Stmt := match s with
  | .ClassDef _ _ _ b _ _ _ _ _ _ _ => b.getD j (.Pass ⟨0, 0, 0, 0⟩)
  | _ => .Pass ⟨0, 0, 0, 0⟩
theorem tk_cx {P : Program} {w : World} {K : PySem.W.Frag} {mg : Str → Option Value} {base : Heap} {N : List Str} {qual : Str} {scope : Scope} {f : Addr} {cdv : Value} {A : Around} {outer : List PySem.Env} {s : Shared} {H : Hp} {E : XK} :
    Takes (cxOf (L2.CX P w) P w K mg base N qual scope f cdv A outer s H E) (fun cls d _ H' => E cls d H') := takes_of rfl rfl rfl rfl
theorem hp_cx {P : Program} {w : World} {K : PySem.W.Frag} {mg : Str → Option Value} {base : Heap} {N : List Str} {qual : Str} {scope : Scope} {f : Addr} {cdv : Value} {A : Around} {outer : List PySem.Env} {s : Shared} {H : Hp} {E : XK} :
    PassesOwn (model (cxOf (L2.CX P w) P w K mg base N qual scope f cdv A outer s H E).prog (cxOf (L2.CX P w) P w K mg base N qual scope f cdv A outer s H E).w) (cxOf (L2.CX P w) P w K mg base N qual scope f cdv A outer s H E).A (cxOf (L2.CX P w) P w K mg base N qual scope f cdv A outer s H E).env (cxOf (L2.CX P w) P w K mg base N qual scope f cdv A outer s H E).xe := passes_of rfl
/-- what a def's body means -/
def BodyOk (P : Program) (w : World) (S : Sg) (mg : Str → Option Value) (base : Heap) (k : Nat) (N : List Str) (d : Df) (b : SS) : Prop :=
  ∀ (cdv : Value) (A : Around) (outer : List PySem.Env) (s : Shared) (H : Hp) (E : XK) (φ : Fr), Room k (A.deeper (envOfC d.qual (defScope d.st) s.heap.objs.size (d.wh.ad S.K) cdv)) →
      JSs (cxOf (L2.CX P w) P w S.K mg base N d.qual (defScope d.st) (d.wh.ad S.K) cdv A outer s H E) S φ (fun cls d _ H' => E cls d H') (defBody d.st) b
theorem dn_all {P : Program} {w : World} {S : Sg} {mg : Str → Option Value} {base : Heap} {k n : Nat} {N ps : List Str} {b : SS} {d : Df} (Fd : ∃ fd, DfD S.K d fd) (hd : d.dfl = []) (Sc : FnScope N ps (defScope d.st)) (hn : ps.length + n = N.length)
    (hb : ∀ (kV doc pm : Value) (an : Option Addr) (cdv ct : Value) (us : List Value), us.length = ps.length → bindArgs (PySem.W.fnOf d.name d.qual (defArgs d.st) (defBody d.st) (defScope d.st) .none kV doc pm an cdv ct) ⟨us, []⟩ = pure (ps.zip us))
    (h : BodyOk P w S mg base k N d b) : Dn P w S mg base (k + 1) (d.wh.ad S.K) [] (fnOf ps.length n b) := by
  obtain ⟨fd, Fd⟩ := Fd
  have Fd' : FunD S.K d.name d.qual (defArgs d.st) (defBody d.st) (defScope d.st) [] (d.kwd.map fun q => (q.1, q.2.v S.K)) (d.wh.ad S.K) fd := by
    have q := Fd
    unfold DfD at q
    rw [hd] at q
    exact q
  exact ⟨Fd.kp, fd, ps, [], [], fn_sem Fd Sc hn h, Fd'.bindsN hb, .nil, fun _ => rfl⟩
/-- its last parameters have defaults: m are given -/
theorem dn_dfl {P : Program} {w : World} {S : Sg} {mg : Str → Option Value} {base : Heap} {k n : Nat} {N ps : List Str} {b : SS} {d : Df} (Fd : ∃ fd, DfD S.K d fd) (m j : Nat) (dv : List PV) (hd : d.dfl.map (He.Dv.v S.K) ≠ []) (hm : m + ((d.dfl.map (He.Dv.v S.K)).length - j) = ps.length)
    (hdv : ∀ F, Reps S F dv ((d.dfl.map (He.Dv.v S.K)).drop j)) (Sc : FnScope N ps (defScope d.st)) (hn : ps.length + n = N.length)
    (hb : ∀ (T : Addr) (kV doc pm : Value) (an : Option Addr) (cdv ct : Value) (us its : List Value), us.length = m → its.length = (d.dfl.map (He.Dv.v S.K)).length →
      ∃ k, bindArgs (PySem.W.fnOf d.name d.qual (defArgs d.st) (defBody d.st) (defScope d.st) (.ref T) kV doc pm an cdv ct) ⟨us, []⟩ = seqItems? (.ref T) >>= k ∧ k (some its.toArray) = pure (ps.zip (us ++ its.drop j)))
    (h : BodyOk P w S mg base k N d b) : Dn P w S mg base (k + 1) (d.wh.ad S.K) dv (fnOf ps.length n b) := by
  obtain ⟨fd, Fd⟩ := Fd
  obtain ⟨ds, h1, h2⟩ := Fd.binds1 m j hd hm hb
  exact ⟨Fd.kp, fd, ps, ds, _, fn_sem Fd Sc hn h, h2, h1, hdv⟩

/-! ### the classes' parts from the facts -/
variable {P : Program} {w : World} {K : PySem.W.Frag} {mg : Str → Option Value} {base : Heap}
theorem fld_ok {c : Cid} {j : Nat} {f : Str} {X : Cx} (h : kCls c K = true) (hn : fK (.noat (cname c) f) K = true) (hj : (flds c)[j]? = some f := by rfl) : AttOk X (sgOf K) f c (.fld j) :=
  ⟨(kCls_ok h).cls, He.noat_ok hn, hj⟩
theorem prop_ok {c : Cid} {f : Str} {X : Cx} {g : Fn} (h : kCls c K = true) (hp : kProp c f K = true) (C : Cal X (sgOf K) (pg K c f) [] g) : AttOk X (sgOf K) f c (.prop g) :=
  ⟨(kCls_ok h).cls, _, _, kProp_ok hp, C⟩
theorem meth_ok {c : Cid} {m : Str} {X : Cx} {g : Fn} {dv : List PV} (h : kCls c K = true) (hm : fK (.meth (cname c) m) K = true) (C : Cal X (sgOf K) (pa K c m) dv g) (hn : m ∉ flds c := by decide) : MethOk X (sgOf K) m c g dv :=
  ⟨(kCls_ok h).cls, hn, _, He.meth_ok hm, C⟩
theorem make_ok {c : Cid} {X : Cx} {g : Fn} {dv : List PV} (h : fK (.mkr (cname c)) K = true) (C : Cal X (sgOf K) (pa K c "__init__") dv g) : MakeOk X (sgOf K) c (pa K c "__init__") g dv :=
  ⟨He.mkr_ok h, C⟩
theorem exc_ok {c : Cid} (h : fK (.exc (cname c)) K = true) : ExcOk (sgOf K) c := by
  obtain ⟨h1, h2, h3, h4⟩ := He.exc_ok h
  exact ⟨h1, h2, h3, h4⟩
end Y
namespace Y
open PySem PySem.Spec L2 PyProof.Rows
/-- a law's end: its def means g, and g is True at each script -/
theorem walkY {l : PySem.W.OpenLaw} {n k : Nat} {q : Program} {loose : List Str} {XP : (Str → Option Value) → Heap → Prop} {YP : World → Heap → Prop} {d : DefRec} {x : Str} {g : Fn}
    (hn : l.most = some n) (hsz : n ≤ sizeLine) (hdf : d.params.defaults = []) (hr : Room k callerA)
    (hT : ∀ ns : List Int, ns.length ≤ n → (∀ i ∈ ns, Builtin.Int.intBits i ≤ 1048576) → Tru g ns)
    (F : ∀ (w : World) (mg : Str → Option Value) (fa : Addr) (h : Heap), YP w h → h.Ns mainGlobals mg → mg d.name = some (.ref fa) →
      ∃ (K : PySem.W.Frag) (fd : FuncData), K.In h ∧ (∀ (s : Shared) (u : Value), BindsTo s fd ⟨[u], []⟩ [(x, u)]) ∧ ∀ base : Heap, K.In base → base.Ns mainGlobals mg → FnOk l.prog w K mg base (L2.CX l.prog w) k fa fd [x] (spOf (sgOf K) g)) : PySem.W.WalkO q loose XP YP l.row.toRowW d [] (fun f vs => PySem.call f vs) := by
  refine Att.attach_callB hn hdf fun w s₀ s₁ mg mb fa o pm cd doc a vs ns G Y ho hd hcd hmg hobj hints hlen hbits hg => ?_
  obtain ⟨K, fd, KX, hb, hF⟩ := F w mg fa _ Y G.T.g hmg
  exact law_call KX G.T.g G.T.b G.T.builtins G.T.nolimit hg hobj hints (Nat.le_trans hlen hsz) hr hF hb (fun H _ hS => sp_law (hT ns hlen hbits) hS) fun H e s' ⟨_, _, _, _, _, _, _, _, _, _, _, _, h⟩ => h
end Y

/-! Y14: how the meanings are reckoned (rewriting rules). -/
namespace Y
open PySem PySem.Spec L2
section
variable {α β : Type} {ρ : Rh} {x y z : PV} {c : Cid} {i j : Nat}
def bK (r : Option (Ou α × Rh)) (k : α → SM β) : Option (Ou β × Rh) := match r with
  | some (.ok a, ρ') => k a ρ'
  | some (.ex c, ρ') => some (.ex c, ρ')
  | none => none
@[simp] theorem bK_ok (a : α) (k : α → SM β) : bK (some (.ok a, ρ)) k = k a ρ := rfl
@[simp] theorem bK_ex (k : α → SM β) : bK (some (.ex c, ρ)) k = some (.ex c, ρ) := rfl
@[simp] theorem bK_none (k : α → SM β) : bK none k = none := rfl
@[simp] theorem bind_ap (m : SM α) (k : α → SM β) : SM.bind m k ρ = bK (m ρ) k := by
  unfold SM.bind bK
  cases m ρ with
  | none => rfl
  | some z => obtain ⟨a, b⟩ := z; cases a <;> rfl
def eK (r : Option (Ou α × Rh)) (k : α → SS) : Option (Fl × Rh) := match r with
  | some (.ok a, ρ') => k a ρ'
  | some (.ex c, ρ') => some (.ex c, ρ')
  | none => none
@[simp] theorem eK_ok (a : α) (k : α → SS) : eK (some (.ok a, ρ)) k = k a ρ := rfl
@[simp] theorem eK_ex (k : α → SS) : eK (some (.ex c, ρ)) k = some (.ex c, ρ) := rfl
@[simp] theorem eK_none (k : α → SS) : eK none k = none := rfl
@[simp] theorem sE_ap (m : SM α) (k : α → SS) : sE m k ρ = eK (m ρ) k := by
  unfold sE eK
  cases m ρ with
  | none => rfl
  | some z => obtain ⟨a, b⟩ := z; cases a <;> rfl
def qK (r : Option (Fl × Rh)) (g : SS) : Option (Fl × Rh) := match r with
  | some (.nx, ρ') => g ρ'
  | r => r
@[simp] theorem qK_nx (g : SS) : qK (some (.nx, ρ)) g = g ρ := rfl
@[simp] theorem qK_rt (s : Sl) (g : SS) : qK (some (.rt s, ρ)) g = some (.rt s, ρ) := rfl
@[simp] theorem qK_ex (g : SS) : qK (some (.ex c, ρ)) g = some (.ex c, ρ) := rfl
@[simp] theorem qK_bk (g : SS) : qK (some (.bk, ρ)) g = some (.bk, ρ) := rfl
@[simp] theorem qK_ct (g : SS) : qK (some (.ct, ρ)) g = some (.ct, ρ) := rfl
@[simp] theorem qK_none (g : SS) : qK none g = none := rfl
@[simp] theorem sSeq_ap (f g : SS) : sSeq f g ρ = qK (f ρ) g := by
  unfold sSeq qK
  cases f ρ with
  | none => rfl
  | some z => obtain ⟨a, b⟩ := z; cases a <;> rfl
@[simp] theorem sNx_ap : sNx ρ = some (.nx, ρ) := rfl
@[simp] theorem sBk_ap : sBk ρ = some (.bk, ρ) := rfl
@[simp] theorem sCt_ap : sCt ρ = some (.ct, ρ) := rfl
/-! expressions -/
@[simp] theorem eC_ap : eC x ρ = some (.ok x, ρ) := rfl
def vK (i : Nat) (s : Option Sl) (ρ : Rh) : Option (Ou PV × Rh) := match s with
  | some (.pu x) => some (.ok x, ρ)
  | some (.ow x) => some (.ok x, ρ.set i (.pu x))
  | _ => none
@[simp] theorem vK_pu : vK i (some (.pu x)) ρ = some (.ok x, ρ) := rfl
@[simp] theorem vK_ow : vK i (some (.ow x)) ρ = some (.ok x, ρ.set i (.pu x)) := rfl
@[simp] theorem eV_ap : eV i ρ = vK i ρ[i]? ρ := by
  unfold eV vK
  split <;> simp_all
def wK (s : Option Sl) (ρ : Rh) : Option (Ou PV × Rh) := match s with
  | some (.pu x) => some (.ok x, ρ)
  | some (.ow x) => some (.ok x, ρ)
  | some (.io x) => some (.ok x, ρ)
  | _ => none
@[simp] theorem wK_pu : wK (some (.pu x)) ρ = some (.ok x, ρ) := rfl
@[simp] theorem wK_ow : wK (some (.ow x)) ρ = some (.ok x, ρ) := rfl
@[simp] theorem wK_io : wK (some (.io x)) ρ = some (.ok x, ρ) := rfl
@[simp] theorem eB_ap : eB i ρ = wK ρ[i]? ρ := by
  unfold eB wK
  split <;> simp_all
def opM {γ : Type} (o : Option γ) : SM γ := fun ρ => match o with
  | some z => some (.ok z, ρ)
  | none => none
@[simp] theorem opM_some {γ : Type} {z : γ} : opM (some z) ρ = some (.ok z, ρ) := rfl
@[simp] theorem opM_none {γ : Type} : opM (none : Option γ) ρ = none := rfl
@[simp] theorem eOp_ap (op : PV → PV → Option PV) (fa fb : SE) : eOp op fa fb ρ = bK (fa ρ) fun x => SM.bind fb fun y => opM (op x y) := by
  unfold eOp
  rw [bind_ap]
  congr 1
  funext x
  congr 1
  funext y ρ
  unfold opM
  cases op x y <;> rfl
def blM (x : PV) : SM Bool := fun ρ => match x with
  | .bl b => some (.ok b, ρ)
  | _ => none
@[simp] theorem blM_bl {b : Bool} : blM (.bl b) ρ = some (.ok b, ρ) := rfl
@[simp] theorem eBl_ap (f : SE) : eBl f ρ = bK (f ρ) blM := by
  unfold eBl
  rw [bind_ap]
  rfl
def ifM {γ : Type} (b : Bool) (f g : Rh → γ) : Rh → γ := if b = true then f else g
@[simp] theorem ifM_t {γ : Type} (f g : Rh → γ) : ifM true f g = f := rfl
@[simp] theorem ifM_f {γ : Type} (f g : Rh → γ) : ifM false f g = g := rfl
@[simp] theorem tAnd_ap (f g : SM Bool) : tAndM f g ρ = bK (f ρ) fun b => ifM b g fun ρ => some (.ok false, ρ) := by
  unfold tAndM
  rw [bind_ap]
  rfl
@[simp] theorem tOr_ap (f g : SM Bool) : tOrM f g ρ = bK (f ρ) fun b => ifM b (fun ρ => some (.ok true, ρ)) g := by
  unfold tOrM
  rw [bind_ap]
  rfl
@[simp] theorem tNot_ap (f : SM Bool) : tNotM f ρ = bK (f ρ) fun b ρ => some (.ok (!b), ρ) := by
  unfold tNotM
  rw [bind_ap]
def andK (x : PV) (g : SE) : SE := match x with
  | .bl true => g
  | .bl false => fun ρ => some (.ok (.bl false), ρ)
  | _ => fun _ => none
def orK (x : PV) (g : SE) : SE := match x with
  | .bl false => g
  | .bl true => fun ρ => some (.ok (.bl true), ρ)
  | _ => fun _ => none
def notK (x : PV) : SE := match x with
  | .bl b => fun ρ => some (.ok (.bl (!b)), ρ)
  | _ => fun _ => none
@[simp] theorem andK_t (g : SE) : andK (.bl true) g = g := rfl
@[simp] theorem andK_f (g : SE) : andK (.bl false) g ρ = some (.ok (.bl false), ρ) := rfl
@[simp] theorem orK_t (g : SE) : orK (.bl true) g ρ = some (.ok (.bl true), ρ) := rfl
@[simp] theorem orK_f (g : SE) : orK (.bl false) g = g := rfl
@[simp] theorem notK_b {b : Bool} : notK (.bl b) ρ = some (.ok (.bl (!b)), ρ) := rfl
@[simp] theorem eAnd_ap (f g : SE) : eAnd f g ρ = bK (f ρ) fun x => andK x g := by
  unfold eAnd
  rw [bind_ap]
  rfl
@[simp] theorem eOr_ap (f g : SE) : eOr f g ρ = bK (f ρ) fun x => orK x g := by
  unfold eOr
  rw [bind_ap]
  rfl
@[simp] theorem eNot_ap (f : SE) : eNot f ρ = bK (f ρ) notK := by
  unfold eNot
  rw [bind_ap]
  rfl
@[simp] theorem eIf_ap (t : SM Bool) (f g : SE) : eIf t f g ρ = bK (t ρ) fun b => ifM b f g := by
  unfold eIf
  rw [bind_ap]
  rfl
@[simp] theorem eUn_ap (op : PV → Option PV) (f : SE) : eUn op f ρ = bK (f ρ) fun x => opM (op x) := by
  unfold eUn
  rw [bind_ap]
  congr 1
  funext x ρ
  unfold opM
  cases op x <;> rfl
@[simp] theorem pNil_ap : pNil ρ = some (.ok [], ρ) := rfl
@[simp] theorem pCons_ap (f : SE) (g : SM (List PV)) : pCons f g ρ = bK (f ρ) fun a => SM.bind g fun as ρ => some (.ok (a :: as), ρ) := by
  unfold pCons
  rw [bind_ap]
@[simp] theorem eBf_ap (op : List PV → Option PV) (f : SM (List PV)) : eBf op f ρ = bK (f ρ) fun xs => opM (op xs) := by
  unfold eBf
  rw [bind_ap]
  congr 1
  funext x ρ
  unfold opM
  cases op x <;> rfl
@[simp] theorem eLen_ap (f : SE) : eLen f ρ = bK (f ρ) fun x => opM ((lenP x).map fun n => .int n) := by
  unfold eLen
  rw [bind_ap]
  congr 1
  funext x ρ
  cases lenP x <;> rfl
@[simp] theorem eTup_ap (f : SM (List PV)) : eTup f ρ = bK (f ρ) fun xs => opM (if xs.length ≤ 1000 then some (.tup xs) else none) := by
  unfold eTup
  rw [bind_ap]
  congr 1
  funext x ρ
  split <;> rfl
@[simp] theorem eLst_ap (f : SM (List PV)) : eLst f ρ = bK (f ρ) fun xs => opM (if xs.length ≤ 1000 then some (.lst xs) else none) := by
  unfold eLst
  rw [bind_ap]
  congr 1
  funext x ρ
  split <;> rfl
def hdK (i : Nat) (y : PV) : SE := fun ρ => opM ((heldP ρ i).bind fun x => ixP x y) ρ
@[simp] theorem hdK_ap : hdK i y ρ = opM ((heldP ρ i).bind fun x => ixP x y) ρ := rfl
@[simp] theorem eIxV_ap (fb : SE) : eIxV i fb ρ = if isB ρ i = true then bK (fb ρ) (hdK i) else none := by
  unfold eIxV
  split
  · rw [bind_ap]
    congr 1
    funext y ρ
    rw [hdK_ap]
    cases heldP ρ i with
    | none => rfl
    | some x =>
      show (match ixP x y with
        | some z => some (.ok z, ρ)
        | none => none) = opM (ixP x y) ρ
      cases ixP x y <;> rfl
  · rfl
/-! statements -/
@[simp] theorem sDo_ap (f : SE) : sDo f ρ = eK (f ρ) fun _ ρ => some (.nx, ρ) := by
  unfold sDo
  rw [sE_ap]
@[simp] theorem sRet_ap (f : SE) : sRet f ρ = eK (f ρ) fun x ρ => some (.rt (.pu x), ρ) := by
  unfold sRet
  rw [sE_ap]
@[simp] theorem sRetW_ap (f : SE) : sRetW f ρ = eK (f ρ) fun x ρ => some (.rt (.ow x), ρ) := by
  unfold sRetW
  rw [sE_ap]
@[simp] theorem sRetN_ap : sRetN ρ = some (.rt (.pu .non), ρ) := rfl
def rvK (i : Nat) (s : Option Sl) (ρ : Rh) : Option (Fl × Rh) := match s with
  | some (.ow x) => some (.rt (.ow x), ρ.set i .un)
  | _ => none
@[simp] theorem rvK_ow : rvK i (some (.ow x)) ρ = some (.rt (.ow x), ρ.set i .un) := rfl
@[simp] theorem sRetV_ap : sRetV i ρ = rvK i ρ[i]? ρ := by
  unfold sRetV rvK
  split <;> simp_all
@[simp] theorem sIf_ap (t : SM Bool) (f g : SS) : sIf t f g ρ = eK (t ρ) fun b => ifM b f g := by
  unfold sIf
  rw [sE_ap]
  rfl
@[simp] theorem sRaise_ap : sRaise c ρ = some (.ex c, ρ) := rfl
def gK (g : GM) (x : PV) : SS := fun ρ => match g x ρ with
  | some ρ' => some (.nx, ρ')
  | none => none
def nxK (o : Option Rh) : Option (Fl × Rh) := o.map fun ρ => (.nx, ρ)
@[simp] theorem nxK_s : nxK (some ρ) = some (.nx, ρ) := rfl
@[simp] theorem gK_ap (g : GM) : gK g x ρ = nxK (g x ρ) := by
  unfold gK nxK
  cases g x ρ <;> rfl
@[simp] theorem sSet_ap (g : GM) (f : SE) : sSet g f ρ = eK (f ρ) (gK g) := by
  unfold sSet
  rw [sE_ap]
  rfl
def gnK (i : Nat) (s : Option Sl) (t : Sl) (ρ : Rh) : Option Rh := match s with
  | some (.io _) => none
  | some _ => some (ρ.set i t)
  | none => none
@[simp] theorem gnK_pu {t : Sl} : gnK i (some (.pu x)) t ρ = some (ρ.set i t) := rfl
@[simp] theorem gnK_ow {t : Sl} : gnK i (some (.ow x)) t ρ = some (ρ.set i t) := rfl
@[simp] theorem gnK_un {t : Sl} : gnK i (some .un) t ρ = some (ρ.set i t) := rfl
@[simp] theorem gN_ap : gN i x ρ = gnK i ρ[i]? (.pu x) ρ := by
  unfold gN gnK
  split <;> simp_all
@[simp] theorem gW_ap : gW i x ρ = gnK i ρ[i]? (.ow x) ρ := by
  unfold gW gnK
  split <;> simp_all
@[simp] theorem gsNil_ap : gsNil [] ρ = some ρ := rfl
@[simp] theorem gsCons_ap (g : GM) (gs : List PV → Rh → Option Rh) (xs : List PV) : gsCons g gs (x :: xs) ρ = (g x ρ).bind (gs xs) := by
  unfold gsCons
  dsimp only
  cases g x ρ <;> rfl
@[simp] theorem gT_ap (gs : List PV → Rh → Option Rh) (xs : List PV) : gT gs (.tup xs) ρ = gs xs ρ := rfl
@[simp] theorem sSetI_ap (fe fk : SE) : sSetI i fe fk ρ = eK (fe ρ) fun x ρ => if isB ρ i = true then eK (fk ρ) (setI1 i x) else none := by
  unfold sSetI
  rw [sE_ap]
  simp only [sE_ap]
@[simp] theorem setI1_ap (k : Int) : setI1 i x (.int k) ρ = nxK ((mtL ρ i).bind fun xs => (ixN xs.length k).map fun n => putL ρ i (xs.set n x)) := by
  unfold setI1
  dsimp only
  cases mtL ρ i with
  | none => rfl
  | some xs =>
    show (match ixN xs.length k with
      | some n => some (Fl.nx, putL ρ i (xs.set n x))
      | none => none) = nxK ((ixN xs.length k).map fun n => putL ρ i (xs.set n x))
    cases ixN xs.length k <;> rfl
def par2 (i j : Nat) (xs : List PV) : SS := fun ρ => match xs with
  | [x, y] => nxK ((gN i x ρ).bind (gN j y))
  | _ => none
@[simp] theorem par2_ap : par2 i j [x, y] ρ = nxK ((gN i x ρ).bind (gN j y)) := rfl
@[simp] theorem sPar_ap (f : SM (List PV)) : sPar i j f ρ = eK (f ρ) (par2 i j) := by
  unfold sPar
  rw [sE_ap]
  have h : ∀ (xs : List PV) (ρ : Rh), (match xs with
    | [x, y] => (match gN i x ρ with
      | some ρ1 => (match gN j y ρ1 with
        | some ρ2 => some (Fl.nx, ρ2)
        | none => none)
      | none => none)
    | _ => none) = par2 i j xs ρ := by
    intro xs ρ
    match xs with
    | [] => rfl
    | [_] => rfl
    | _ :: _ :: _ :: _ => rfl
    | [x, y] =>
      rw [par2_ap]
      dsimp only
      cases gN i x ρ with
      | none => rfl
      | some ρ1 =>
        rw [Option.bind_some]
        dsimp only
        cases gN j y ρ1 <;> rfl
  exact congrArg (eK (f ρ)) (funext fun xs => funext fun ρ => h xs ρ)
@[simp] theorem sWhile_ap (n : Rh → Nat) (t : SM Bool) (b : SS) : sWhile n t b ρ = whileL t b (n ρ) ρ := rfl
@[simp] theorem sFor_ap (it : SM (List PV)) (gm : GM) (b : SS) (fg : List Nat) : sFor it gm b fg ρ = eK (it ρ) fun xs ρ => forL gm b fg xs (wipeR fg ρ) := by
  unfold sFor
  rw [sE_ap]
def loopK (r : Option (Fl × Rh)) (k : SS) : Option (Fl × Rh) := match r with
  | some (.nx, ρ2) => k ρ2
  | some (.ct, ρ2) => k ρ2
  | some (.bk, ρ2) => some (.nx, ρ2)
  | r => r
@[simp] theorem loopK_nx (k : SS) : loopK (some (.nx, ρ)) k = k ρ := rfl
@[simp] theorem loopK_ct (k : SS) : loopK (some (.ct, ρ)) k = k ρ := rfl
@[simp] theorem loopK_bk (k : SS) : loopK (some (.bk, ρ)) k = some (.nx, ρ) := rfl
@[simp] theorem loopK_rt (s : Sl) (k : SS) : loopK (some (.rt s, ρ)) k = some (.rt s, ρ) := rfl
@[simp] theorem loopK_ex (k : SS) : loopK (some (.ex c, ρ)) k = some (.ex c, ρ) := rfl
theorem while_s (t : SM Bool) (b : SS) (n : Nat) : whileL t b (n + 1) ρ = eK (t ρ) fun k => ifM k (fun ρ1 => loopK (b ρ1) (whileL t b n)) fun ρ1 => some (.nx, ρ1) := by
  rw [whileL]
  dsimp only
  cases t ρ with
  | none => rfl
  | some z =>
    obtain ⟨a, ρ1⟩ := z
    cases a with
    | ex c => rfl
    | ok k =>
      cases k with
      | false => rfl
      | true =>
        show _ = loopK (b ρ1) (whileL t b n)
        dsimp only
        cases b ρ1 with
        | none => rfl
        | some w => obtain ⟨f, ρ2⟩ := w; cases f <;> rfl
@[simp] theorem for_nil (gm : GM) (b : SS) (fg : List Nat) : forL gm b fg [] ρ = some (.nx, ρ) := rfl
def forK (o : Option Rh) (k : SS) : Option (Fl × Rh) := match o with
  | some ρ => k ρ
  | none => none
@[simp] theorem forK_s (k : SS) : forK (some ρ) k = k ρ := rfl
theorem for_s (gm : GM) (b : SS) (fg : List Nat) (xs : List PV) : forL gm b fg (x :: xs) ρ = forK (gm x ρ) fun ρ1 => loopK (b ρ1) fun ρ2 => forL gm b fg xs (wipeR fg ρ2) := by
  rw [forL]
  dsimp only
  cases gm x ρ with
  | none => rfl
  | some ρ1 =>
    show _ = loopK (b ρ1) _
    dsimp only
    cases b ρ1 with
    | none => rfl
    | some w => obtain ⟨f, ρ2⟩ := w; cases f <;> rfl
/-! calls -/
@[simp] theorem aP_ap (f : SE) : aP f ρ = bK (f ρ) fun x ρ => some (.ok (.pv x), ρ) := by
  unfold aP
  rw [bind_ap]
def aoK (i : Nat) (s : Option Sl) (ρ : Rh) : Option (Ou Ar × Rh) := match s with
  | some (.ow _) => some (.ok (.own i), ρ)
  | some (.io _) => some (.ok (.own i), ρ)
  | _ => none
@[simp] theorem aoK_ow : aoK i (some (.ow x)) ρ = some (.ok (.own i), ρ) := rfl
@[simp] theorem aoK_io : aoK i (some (.io x)) ρ = some (.ok (.own i), ρ) := rfl
@[simp] theorem aO_ap : aO i ρ = aoK i ρ[i]? ρ := by
  unfold aO aoK
  split <;> simp_all
@[simp] theorem aNil_ap : aNil ρ = some (.ok [], ρ) := rfl
@[simp] theorem aCons_ap (f : SM Ar) (g : SM (List Ar)) : aCons f g ρ = bK (f ρ) fun a => SM.bind g fun as ρ => some (.ok (a :: as), ρ) := by
  unfold aCons
  rw [bind_ap]
@[simp] theorem eCall_ap (g : Fn) (dv : List PV) (fa : SM (List Ar)) : eCall g dv fa ρ = bK (fa ρ) fun as => callG g dv as := by
  unfold eCall
  rw [bind_ap]
def clK (ρ : Rh) (as : List Ar) (r : Option (Ou Sl × List Sl)) : Option (Ou Sl × Rh) := match r with
  | some (a, args') => some (a, wb ρ as args')
  | none => none
@[simp] theorem clK_s {a : Ou Sl} {args' : List Sl} (as : List Ar) : clK ρ as (some (a, args')) = some (a, wb ρ as args') := rfl
theorem callG_ap {as : List Ar} {ss : List Sl} (g : Fn) (dv : List PV) (h1 : (owns as).Nodup) (h2 : slsOf ρ as = some ss) : callG g dv as ρ = clK ρ as (g (ss ++ dv.map .pu)) := by
  unfold callG
  rw [if_pos h1, h2]
  dsimp only
  cases g (ss ++ dv.map .pu) with
  | none => rfl
  | some z => obtain ⟨a, b⟩ := z; cases a <;> rfl
@[simp] theorem eR_ap (f : SM Sl) : eR f ρ = bK (f ρ) asE := by
  unfold eR
  rw [bind_ap]
@[simp] theorem asE_pu : asE (.pu x) ρ = some (.ok x, ρ) := rfl
@[simp] theorem asE_ow : asE (.ow x) ρ = some (.ok x, ρ) := rfl
def ownE (s : Sl) : SE := fun ρ => match s with
  | .ow x => some (.ok x, ρ)
  | _ => none
@[simp] theorem ownE_ow : ownE (.ow x) ρ = some (.ok x, ρ) := rfl
@[simp] theorem eRN_ap (f : SM Sl) : eRN f ρ = bK (f ρ) ownE := by
  unfold eRN
  rw [bind_ap]
  rfl
@[simp] theorem eCallT_ap (g : Fn) (dv : List PV) (fa : SE) : eCallT g dv fa ρ = bK (fa ρ) fun x => callT g dv x := by
  unfold eCallT
  rw [bind_ap]
@[simp] theorem eMake_ap (g : Fn) (dv : List PV) (fs : SM (List Ar)) : eMake c g dv fs ρ = bK (fs ρ) (make1 c g dv) := by
  unfold eMake
  rw [bind_ap]
@[simp] theorem eAtt_ap (tab : Cid → Option At) (fr : SM Ar) : eAtt tab fr ρ = bK (fr ρ) (att1 tab) := by
  unfold eAtt
  rw [bind_ap]
@[simp] theorem eMeth_ap (tab : Cid → Option (Fn × List PV)) (fr : SM Ar) (fs : SM (List Ar)) : eMeth tab fr fs ρ = bK (fr ρ) (meth1 tab fs) := by
  unfold eMeth
  rw [bind_ap]
@[simp] theorem sSetF_ap (tab : Cid → Option Nat) (f : SE) : sSetF i tab f ρ = eK (f ρ) (setF1 i tab) := by
  unfold sSetF
  rw [sE_ap]
/-! operators -/
@[simp] theorem oAdd_i (a b : Int) : oAdd (.int a) (.int b) = some (.int (a + b)) := rfl
@[simp] theorem oSub_i (a b : Int) : oSub (.int a) (.int b) = some (.int (a - b)) := rfl
@[simp] theorem oNeg_i (a : Int) : oNeg (.int a) = some (.int (-a)) := rfl
theorem oMul_i {a b : Int} (h : MulB a b) : oMul (.int a) (.int b) = some (.int (a * b)) := by
  simp [oMul, oI, h]
theorem oFdiv_i {a b : Int} (h : DivB b) : oFdiv (.int a) (.int b) = some (.int (a.fdiv b)) := by
  simp [oFdiv, oI, h]
@[simp] theorem oMod_i {a b : Int} (h : b ≠ 0) : oMod (.int a) (.int b) = some (.int (a.fmod b)) := by
  simp [oMod, oI, h]
@[simp] theorem oLt_i (a b : Int) : oLt (.int a) (.int b) = some (.bl (decide (a < b))) := rfl
@[simp] theorem oLe_i (a b : Int) : oLe (.int a) (.int b) = some (.bl (decide (a ≤ b))) := rfl
@[simp] theorem oGt_i (a b : Int) : oGt (.int a) (.int b) = some (.bl (decide (b < a))) := rfl
@[simp] theorem oGe_i (a b : Int) : oGe (.int a) (.int b) = some (.bl (decide (b ≤ a))) := rfl
@[simp] theorem oEq_i (a b : Int) : oEq (.int a) (.int b) = some (.bl (decide (a = b))) := rfl
@[simp] theorem oNe_i (a b : Int) : oNe (.int a) (.int b) = some (.bl (!decide (a = b))) := rfl
end
end Y

/-! Y15: rewriting rules for calls, attributes, instances. -/
namespace Y
open PySem PySem.Spec L2
section
variable {ρ : Rh} {x y z : PV} {c : Cid} {i j : Nat}
def fnK (args : List Sl) (r : Option (Fl × Rh)) : Option (Ou Sl × List Sl) := match r with
  | some (.rt sl, ρ') => if chk args ρ' = true then some (.ok sl, outs args ρ') else none
  | some (.nx, ρ') => if chk args ρ' = true then some (.ok (.pu .non), outs args ρ') else none
  | some (.ex c, ρ') => if chk args ρ' = true then some (.ex c, outs args ρ') else none
  | _ => none
@[simp] theorem fnK_rt {args : List Sl} {s : Sl} : fnK args (some (.rt s, ρ)) = if chk args ρ = true then some (.ok s, outs args ρ) else none := rfl
@[simp] theorem fnK_nx {args : List Sl} : fnK args (some (.nx, ρ)) = if chk args ρ = true then some (.ok (.pu .non), outs args ρ) else none := rfl
@[simp] theorem fnK_ex {args : List Sl} : fnK args (some (.ex c, ρ)) = if chk args ρ = true then some (.ex c, outs args ρ) else none := rfl
theorem fnOf_ap {m n : Nat} {f : SS} {args : List Sl} (h : args.length = m) : fnOf m n f args = fnK args (f (args ++ List.replicate n .un)) := by
  unfold fnOf
  rw [if_pos h]
  unfold fnK
  cases f (args ++ List.replicate n .un) with
  | none => rfl
  | some z => obtain ⟨a, b⟩ := z; cases a <;> rfl
@[simp] theorem fnOf_s {m n : Nat} {f : SS} {args : List Sl} : fnOf m n f args = if args.length = m then fnK args (f (args ++ List.replicate n .un)) else none := by
  split
  · rename_i h
    exact fnOf_ap h
  · rename_i h
    unfold fnOf
    rw [if_neg h]
@[simp] theorem chk_nil : chk [] ρ = true := by cases ρ <;> rfl
@[simp] theorem chk_pu {as : List Sl} {s : Sl} : chk (.pu x :: as) (s :: ρ) = chk as ρ := rfl
@[simp] theorem chk_ioc {as : List Sl} : chk (.io x :: as) (.io y :: ρ) = chk as ρ := rfl
@[simp] theorem outs_nil : outs [] ρ = [] := rfl
@[simp] theorem outs_pu {as : List Sl} {s : Sl} : outs (.pu x :: as) (s :: ρ) = .pu x :: outs as ρ := rfl
@[simp] theorem outs_ioc {as : List Sl} {s : Sl} : outs (.io x :: as) (s :: ρ) = s :: outs as ρ := rfl
@[simp] theorem owns_nil : owns [] = [] := rfl
@[simp] theorem owns_pv {as : List Ar} : owns (.pv x :: as) = owns as := rfl
@[simp] theorem owns_own {as : List Ar} : owns (.own i :: as) = i :: owns as := rfl
def ioK (s : Option Sl) : Option Sl := match s with
  | some (.ow x) => some (.io x)
  | some (.io x) => some (.io x)
  | _ => none
@[simp] theorem ioK_ow : ioK (some (.ow x)) = some (.io x) := rfl
@[simp] theorem ioK_io : ioK (some (.io x)) = some (.io x) := rfl
@[simp] theorem slOf_pv : slOf ρ (.pv x) = some (.pu x) := rfl
@[simp] theorem slOf_own : slOf ρ (.own i) = ioK ρ[i]? := by
  unfold slOf ioK
  dsimp only
  all_goals (split <;> simp_all)
@[simp] theorem slsOf_nil : slsOf ρ [] = some [] := rfl
@[simp] theorem slsOf_cons {a : Ar} {as : List Ar} : slsOf ρ (a :: as) = (slOf ρ a).bind fun s => (slsOf ρ as).map fun ss => s :: ss := by
  rw [slsOf]
  cases slOf ρ a with
  | none => rfl
  | some s => cases slsOf ρ as <;> rfl
def callK (ρ : Rh) (g : Fn) (dv : List PV) (as : List Ar) (ss : Option (List Sl)) : Option (Ou Sl × Rh) := match ss with
  | some ss => clK ρ as (g (ss ++ dv.map .pu))
  | none => none
@[simp] theorem callK_s {g : Fn} {dv : List PV} {as : List Ar} {ss : List Sl} : callK ρ g dv as (some ss) = clK ρ as (g (ss ++ dv.map .pu)) := rfl
@[simp] theorem callG_k {g : Fn} {dv : List PV} {as : List Ar} : callG g dv as ρ = if (owns as).Nodup then callK ρ g dv as (slsOf ρ as) else none := by
  by_cases h : (owns as).Nodup
  · rw [if_pos h]
    cases q : slsOf ρ as with
    | some ss => rw [callG_ap g dv h q]; rfl
    | none => unfold callG; rw [if_pos h, q]; rfl
  · unfold callG
    rw [if_neg h, if_neg h]
@[simp] theorem wb_nil {ss : List Sl} : wb ρ [] ss = ρ := by cases ss <;> rfl
@[simp] theorem wb_pv {as : List Ar} {s : Sl} {ss : List Sl} : wb ρ (.pv x :: as) (s :: ss) = wb ρ as ss := by
  cases s <;> rfl
def ptK (ρ : Rh) (i : Nat) (x : PV) (s : Option Sl) : Rh := match s with
  | some t => ρ.set i (t.put x)
  | none => ρ
@[simp] theorem ptK_ow : ptK ρ i x (some (.ow y)) = ρ.set i (.ow x) := rfl
@[simp] theorem ptK_io : ptK ρ i x (some (.io y)) = ρ.set i (.io x) := rfl
@[simp] theorem wb_own {as : List Ar} {ss : List Sl} : wb ρ (.own i :: as) (.io x :: ss) = wb (ptK ρ i x ρ[i]?) as ss := rfl
def ctK (r : Option (Ou Sl × Rh)) (n : Nat) : Option (Ou Sl × Rh) := match r with
  | some (r, ρ') => if ρ'.length = n + 1 then some (r, ρ'.dropLast) else none
  | none => none
@[simp] theorem ctK_s {r : Ou Sl} {n : Nat} : ctK (some (r, ρ)) n = if ρ.length = n + 1 then some (r, ρ.dropLast) else none := rfl
@[simp] theorem callT_ap {g : Fn} {dv : List PV} : callT g dv x ρ = ctK (callG g dv [.own ρ.length] (ρ ++ [.ow x])) ρ.length := by
  unfold callT ctK
  cases callG g dv [.own ρ.length] (ρ ++ [.ow x]) <;> rfl
def mkK (r : Option (Ou Sl × Rh)) (n : Nat) : Option (Ou PV × Rh) := match r with
  | some (.ok (.pu .non), ρ') => (match lastW ρ' with
    | some y => if ρ'.length = n + 1 then some (.ok y, ρ'.dropLast) else none
    | none => none)
  | some (.ex x, ρ') => if ρ'.length = n + 1 then some (.ex x, ρ'.dropLast) else none
  | _ => none
def lwK (o : Option PV) (n : Nat) (ρ : Rh) : Option (Ou PV × Rh) := match o with
  | some y => if ρ.length = n + 1 then some (.ok y, ρ.dropLast) else none
  | none => none
@[simp] theorem lwK_s {n : Nat} : lwK (some y) n ρ = if ρ.length = n + 1 then some (.ok y, ρ.dropLast) else none := rfl
@[simp] theorem mkK_ok {n : Nat} : mkK (some (.ok (.pu .non), ρ)) n = lwK (lastW ρ) n ρ := rfl
@[simp] theorem mkK_ex {n : Nat} : mkK (some (.ex c, ρ)) n = if ρ.length = n + 1 then some (.ex c, ρ.dropLast) else none := rfl
@[simp] theorem make1_ap {g : Fn} {dv : List PV} {as : List Ar} : make1 c g dv as ρ = if (owns as).all (fun i => decide (i < ρ.length)) = true then mkK (callG g dv (.own ρ.length :: as) (ρ ++ [.ow (.obj c [])])) ρ.length else none := by
  unfold make1 mkK
  split
  · cases callG g dv (.own ρ.length :: as) (ρ ++ [.ow (.obj c [])]) with
    | none => rfl
    | some z => obtain ⟨a, b⟩ := z; cases a with
      | ok s => cases s with
        | pu x => cases x <;> rfl
        | _ => rfl
      | ex c => rfl
  · rfl
def lwS (o : Option Sl) : Option PV := match o with
  | some (.ow y) => some y
  | _ => none
@[simp] theorem lwS_ow : lwS (some (.ow y)) = some y := rfl
@[simp] theorem lastW_ap : lastW ρ = lwS ρ.getLast? := rfl
/-! attributes -/
def at2 (ρ : Rh) (a : Ar) (xs : List PV) (t : Option At) : Option (Ou Sl × Rh) := match t with
  | some (.fld j) => opM (xs[j]?.map Sl.pu) ρ
  | some (.prop g) => (match callG g [] [a] ρ with
    | some (.ok sl, ρ') => some (.ok sl, ρ')
    | _ => none)
  | none => none
def at1 (ρ : Rh) (tab : Cid → Option At) (a : Ar) (o : Option PV) : Option (Ou Sl × Rh) := match o with
  | some (.obj c xs) => at2 ρ a xs (tab c)
  | _ => none
@[simp] theorem at1_o {tab : Cid → Option At} {a : Ar} {xs : List PV} : at1 ρ tab a (some (.obj c xs)) = at2 ρ a xs (tab c) := rfl
@[simp] theorem at2_f {a : Ar} {xs : List PV} : at2 ρ a xs (some (.fld j)) = opM (xs[j]?.map Sl.pu) ρ := rfl
def okK (r : Option (Ou Sl × Rh)) : Option (Ou Sl × Rh) := match r with
  | some (.ok sl, ρ') => some (.ok sl, ρ')
  | _ => none
@[simp] theorem okK_s {s : Sl} : okK (some (.ok s, ρ)) = some (.ok s, ρ) := rfl
@[simp] theorem at2_p {a : Ar} {xs : List PV} {g : Fn} : at2 ρ a xs (some (.prop g)) = okK (callG g [] [a] ρ) := rfl
@[simp] theorem att1_ap {tab : Cid → Option At} {a : Ar} : att1 tab a ρ = at1 ρ tab a (contAr ρ a) := by
  unfold att1 at1
  cases contAr ρ a with
  | none => rfl
  | some o => cases o with
    | obj c xs =>
      dsimp only
      unfold at2
      cases tab c with
      | none => rfl
      | some t => cases t with
        | fld j => dsimp only; cases xs[j]? <;> rfl
        | prop g => rfl
    | _ => rfl
@[simp] theorem contAr_pv : contAr ρ (.pv x) = some x := rfl
def coK (s : Option Sl) : Option PV := match s with
  | some (.ow x) => some x
  | some (.io x) => some x
  | _ => none
@[simp] theorem coK_ow : coK (some (.ow x)) = some x := rfl
@[simp] theorem coK_io : coK (some (.io x)) = some x := rfl
@[simp] theorem contAr_own : contAr ρ (.own i) = coK ρ[i]? := by
  unfold contAr coK
  dsimp only
  all_goals (split <;> simp_all)
@[simp] theorem atL_nil : atL [] c = none := rfl
@[simp] theorem atL_cons {d : Cid} {a : At} {l : List (Cid × At)} : atL ((d, a) :: l) c = if c = d then some a else atL l c := by
  unfold atL
  rw [List.lookup_cons]
  by_cases h : c = d
  · subst h
    simp
  · have h2 : (c == d) = false := by simpa using h
    rw [h2, if_neg h]
@[simp] theorem fiL_nil : fiL [] c = none := rfl
@[simp] theorem fiL_cons {d : Cid} {a : Nat} {l : List (Cid × Nat)} : fiL ((d, a) :: l) c = if c = d then some a else fiL l c := by
  unfold fiL
  rw [List.lookup_cons]
  by_cases h : c = d
  · subst h
    simp
  · have h2 : (c == d) = false := by simpa using h
    rw [h2, if_neg h]
@[simp] theorem mtT_nil : mtT [] c = none := rfl
@[simp] theorem mtT_cons {d : Cid} {a : Fn × List PV} {l : List (Cid × (Fn × List PV))} : mtT ((d, a) :: l) c = if c = d then some a else mtT l c := by
  unfold mtT
  rw [List.lookup_cons]
  by_cases h : c = d
  · subst h
    simp
  · have h2 : (c == d) = false := by simpa using h
    rw [h2, if_neg h]
def me2 (ρ : Rh) (a : Ar) (fs : SM (List Ar)) (t : Option (Fn × List PV)) : Option (Ou Sl × Rh) := match t with
  | some (g, dv) => (fs.bind fun as => callG g dv (a :: as)) ρ
  | none => none
def me1 (ρ : Rh) (tab : Cid → Option (Fn × List PV)) (a : Ar) (fs : SM (List Ar)) (o : Option PV) : Option (Ou Sl × Rh) := match o with
  | some (.obj c _) => me2 ρ a fs (tab c)
  | _ => none
@[simp] theorem me1_o {tab : Cid → Option (Fn × List PV)} {a : Ar} {fs : SM (List Ar)} {xs : List PV} : me1 ρ tab a fs (some (.obj c xs)) = me2 ρ a fs (tab c) := rfl
@[simp] theorem me2_s {a : Ar} {fs : SM (List Ar)} {g : Fn} {dv : List PV} : me2 ρ a fs (some (g, dv)) = (fs.bind fun as => callG g dv (a :: as)) ρ := rfl
@[simp] theorem meth1_ap {tab : Cid → Option (Fn × List PV)} {a : Ar} {fs : SM (List Ar)} : meth1 tab fs a ρ = me1 ρ tab a fs (contAr ρ a) := by
  unfold meth1 me1
  cases contAr ρ a with
  | none => rfl
  | some o => cases o with
    | obj c xs =>
      dsimp only
      unfold me2
      cases tab c <;> rfl
    | _ => rfl
def sf2 (ρ : Rh) (i : Nat) (t : Sl) (c : Cid) (xs : List PV) (x : PV) (j : Option Nat) : Option (Fl × Rh) := match j with
  | some j => if j < xs.length then some (.nx, ρ.set i (t.put (.obj c (xs.set j x)))) else if j = xs.length then some (.nx, ρ.set i (t.put (.obj c (xs ++ [x])))) else none
  | none => none
def sf1 (ρ : Rh) (i : Nat) (tab : Cid → Option Nat) (x : PV) (o : Option PV) (t : Option Sl) : Option (Fl × Rh) := match o, t with
  | some (.obj c xs), some t => sf2 ρ i t c xs x (tab c)
  | _, _ => none
@[simp] theorem sf1_s {tab : Cid → Option Nat} {xs : List PV} {t : Sl} : sf1 ρ i tab x (some (.obj c xs)) (some t) = sf2 ρ i t c xs x (tab c) := rfl
@[simp] theorem sf2_s {t : Sl} {xs : List PV} : sf2 ρ i t c xs x (some j) = if j < xs.length then some (.nx, ρ.set i (t.put (.obj c (xs.set j x)))) else if j = xs.length then some (.nx, ρ.set i (t.put (.obj c (xs ++ [x])))) else none := rfl
@[simp] theorem put_ow : Sl.put (.ow x) y = .ow y := rfl
@[simp] theorem put_io : Sl.put (.io x) y = .io y := rfl
@[simp] theorem setF1_ap {tab : Cid → Option Nat} : setF1 i tab x ρ = sf1 ρ i tab x (contAr ρ (.own i)) ρ[i]? := by
  unfold setF1 sf1
  cases contAr ρ (.own i) with
  | none => cases ρ[i]? <;> rfl
  | some o => cases o with
    | obj c xs => cases ρ[i]? with
      | none => rfl
      | some t =>
        dsimp only
        unfold sf2
        cases tab c <;> rfl
    | _ => cases ρ[i]? <;> rfl
/-! lists in slots -/
def isK (s : Option Sl) : Bool := match s with
  | some (.pu _) => true
  | some (.ow _) => true
  | some (.io _) => true
  | _ => false
@[simp] theorem isK_pu : isK (some (.pu x)) = true := rfl
@[simp] theorem isK_ow : isK (some (.ow x)) = true := rfl
@[simp] theorem isK_io : isK (some (.io x)) = true := rfl
@[simp] theorem isB_ap : isB ρ i = isK ρ[i]? := by
  unfold isB isK
  split <;> simp_all
def hK_ (s : Option Sl) : Option PV := match s with
  | some (.pu x) => some x
  | some (.ow x) => some x
  | some (.io x) => some x
  | _ => none
@[simp] theorem hK_pu : hK_ (some (.pu x)) = some x := rfl
@[simp] theorem hK_ow : hK_ (some (.ow x)) = some x := rfl
@[simp] theorem hK_io : hK_ (some (.io x)) = some x := rfl
@[simp] theorem heldP_ap : heldP ρ i = hK_ ρ[i]? := by
  unfold heldP hK_
  split <;> simp_all
def mlK (s : Option Sl) : Option (List PV) := match s with
  | some (.ow (.lst xs)) => some xs
  | some (.io (.lst xs)) => some xs
  | _ => none
@[simp] theorem mlK_ow {xs : List PV} : mlK (some (.ow (.lst xs))) = some xs := rfl
@[simp] theorem mlK_io {xs : List PV} : mlK (some (.io (.lst xs))) = some xs := rfl
@[simp] theorem mtL_ap : mtL ρ i = mlK ρ[i]? := by
  unfold mtL mlK
  split <;> simp_all
@[simp] theorem putL_ap {ys : List PV} : putL ρ i ys = ptK ρ i (.lst ys) ρ[i]? := rfl
@[simp] theorem ixP_l {xs : List PV} {k : Int} : ixP (.lst xs) (.int k) = atI xs k := rfl
@[simp] theorem ixP_t {xs : List PV} {k : Int} : ixP (.tup xs) (.int k) = atI xs k := rfl
@[simp] theorem lenP_l {xs : List PV} : lenP (.lst xs) = some xs.length := rfl
@[simp] theorem lenP_t {xs : List PV} : lenP (.tup xs) = some xs.length := rfl
def mlO (ρ : Rh) (i : Nat) (r : Option (PV × List PV)) : Option (Ou PV × Rh) := match r with
  | some (z, ys) => some (.ok z, putL ρ i ys)
  | none => none
@[simp] theorem mlO_s {ys : List PV} : mlO ρ i (some (z, ys)) = some (.ok z, putL ρ i ys) := rfl
@[simp] theorem eMl_ap {op : List PV → List PV → Option (PV × List PV)} {fp : SM (List PV)} : eMl i op fp ρ = if (mtL ρ i).isSome = true then bK (fp ρ) fun as ρ => mlO ρ i ((mtL ρ i).bind fun xs => op xs as) else none := by
  unfold eMl
  split
  · rw [bind_ap]
    congr 1
    funext as ρ
    cases mtL ρ i with
    | none => rfl
    | some xs =>
      rw [Option.bind_some]
      dsimp only
      unfold mlO
      cases op xs as with
      | none => rfl
      | some z => rfl
  · rfl
@[simp] theorem bAbs_i (a : Int) : bAbs [.int a] = some (.int (if a < 0 then -a else a)) := rfl
@[simp] theorem bInt_i (a : Int) : bInt [.int a] = some (.int a) := rfl
@[simp] theorem bMax_i (a b : Int) : bMax [.int a, .int b] = some (.int (if a < b then b else a)) := rfl
@[simp] theorem bMin_i (a b : Int) : bMin [.int a, .int b] = some (.int (if b < a then b else a)) := rfl
noncomputable def r1M (xs : List PV) : SM (List PV) := fun ρ => match xs with
  | [.int j] => if RngB j then some (.ok (rngP 0 j.toNat), ρ) else none
  | _ => none
@[simp] theorem r1M_i {k : Int} : r1M [.int k] ρ = if RngB k then some (.ok (rngP 0 k.toNat), ρ) else none := rfl
@[simp] theorem iR1_ap {fp : SM (List PV)} : iR1 fp ρ = bK (fp ρ) r1M := by
  unfold iR1
  rw [bind_ap]
  rfl
noncomputable def r2M (xs : List PV) : SM (List PV) := fun ρ => match xs with
  | [.int i, .int j] => if RngB i ∧ RngB j then some (.ok (rngP i (j - i).toNat), ρ) else none
  | _ => none
@[simp] theorem r2M_i {i k : Int} : r2M [.int i, .int k] ρ = if RngB i ∧ RngB k then some (.ok (rngP i (k - i).toNat), ρ) else none := rfl
@[simp] theorem iR2_ap {fp : SM (List PV)} : iR2 fp ρ = bK (fp ρ) r2M := by
  unfold iR2
  rw [bind_ap]
  rfl
def lsM (x : PV) : SM (List PV) := fun ρ => match x with
  | .lst xs => some (.ok xs, ρ)
  | _ => none
@[simp] theorem lsM_l {xs : List PV} : lsM (.lst xs) ρ = some (.ok xs, ρ) := rfl
@[simp] theorem iL_ap {f : SE} : iL f ρ = bK (f ρ) lsM := by
  unfold iL
  rw [bind_ap]
  rfl
def tsM (x : PV) : SM (List PV) := fun ρ => match x with
  | .tup xs => some (.ok xs, ρ)
  | _ => none
@[simp] theorem tsM_l {xs : List PV} : tsM (.tup xs) ρ = some (.ok xs, ρ) := rfl
@[simp] theorem iTu_ap {f : SE} : iTu f ρ = bK (f ρ) tsM := by
  unfold iTu
  rw [bind_ap]
  rfl
def wpK (i : Nat) (s : Option Sl) (ρ : Rh) : Rh := match s with
  | some (.io _) => ρ
  | _ => ρ.set i .un
@[simp] theorem wpK_io : wpK i (some (.io x)) ρ = ρ := rfl
@[simp] theorem wpK_pu : wpK i (some (.pu x)) ρ = ρ.set i .un := rfl
@[simp] theorem wpK_ow : wpK i (some (.ow x)) ρ = ρ.set i .un := rfl
@[simp] theorem wpK_un : wpK i (some .un) ρ = ρ.set i .un := rfl
@[simp] theorem wipe_nil : wipeR [] ρ = ρ := rfl
@[simp] theorem wipe_cons {fg : List Nat} : wipeR (i :: fg) ρ = wipeR fg (wpK i ρ[i]? ρ) := by
  show wipeR fg (wipe1 ρ i) = _
  congr 1
end
end Y

namespace Y
open PySem PySem.Spec L2 PyProof.Rows
abbrev RWX : PySem.W.OpenLaw := PySem.Challenge.rw_yesorwait_k01_lowest_terms
def top (i : Nat) : Stmt := PySem.Challenge.pw_yesorwait_k01_lowest_terms.main.body.getD i (.Pass ⟨0, 0, 0, 0⟩)
abbrev s_l_pick : Stmt := top 10
abbrev s_l_parts : Stmt := top 14
abbrev s_is_integer : Stmt := top 4
abbrev s_common_divisor : Stmt := top 5
abbrev s_Amount_init : Stmt := meth (top 6) 0
abbrev s_l_whole : Stmt := top 11
abbrev s_Amount_top : Stmt := meth (top 6) 1
abbrev s_Amount_bottom : Stmt := meth (top 6) 2
abbrev s_l_gcd : Stmt := top 12
abbrev s_l_is : Stmt := top 13
abbrev s_l_case : Stmt := top 15
abbrev s_l_jar : Stmt := top 9
abbrev s_law : Stmt := top 16
def d_l_pick : Df := ⟨.fn "_law_pick", "_law_pick", "_law_pick", s_l_pick, [], []⟩
def d_l_parts : Df := ⟨.fn "_law_parts", "_law_parts", "_law_parts", s_l_parts, [], []⟩
def d_is_integer : Df := ⟨.fn "is_integer", "is_integer", "is_integer", s_is_integer, [], []⟩
def d_common_divisor : Df := ⟨.fn "common_divisor", "common_divisor", "common_divisor", s_common_divisor, [], []⟩
def d_Amount_init : Df := ⟨.mt .Amount "__init__", "__init__", "Amount.__init__", s_Amount_init, [.int 1], []⟩
def d_l_whole : Df := ⟨.fn "_law_whole", "_law_whole", "_law_whole", s_l_whole, [], []⟩
def d_Amount_top : Df := ⟨.pr .Amount "top", "top", "Amount.top", s_Amount_top, [], []⟩
def d_Amount_bottom : Df := ⟨.pr .Amount "bottom", "bottom", "Amount.bottom", s_Amount_bottom, [], []⟩
def d_l_gcd : Df := ⟨.fn "_law_gcd", "_law_gcd", "_law_gcd", s_l_gcd, [], []⟩
def d_l_is : Df := ⟨.fn "_law_is", "_law_is", "_law_is", s_l_is, [], []⟩
def d_l_case : Df := ⟨.fn "_law_case", "_law_case", "_law_case", s_l_case, [], []⟩
def d_l_jar : Df := ⟨.fn "_law_jar", "_law_jar", "_law_jar", s_l_jar, [], []⟩
def d_law : Df := ⟨.fn "law", "law", "law", s_law, [], []⟩
def isiC : List Cid := [.Amount]
def isiG : Tg → PV → Option Bool := isiT isiC
def fb : List Kf := [kIsi isiC,
  kGlo "_law_jar",
  kGlo "_law_case",
  kGlo "_law_parts",
  kGlo "Amount",
  kGlo "_law_is",
  kGlo "_law_pick",
  kGlo "is_integer",
  kGlo "InvalidAmount",
  kGlo "common_divisor",
  kGlo "_law_whole",
  kGlo "_law_gcd",
  kFree "len",
  kFree "min",
  kFree "max",
  kFree "range",
  kFree "int",
  kFree "isinstance",
  kFree "bool",
  kFree "abs",
  kCls .Amount,
  fK (.noat (cname .Amount) "above"),
  fK (.noat (cname .Amount) "below"),
  fK (.mkr (cname .Amount)),
  kProp .Amount "top",
  kProp .Amount "bottom",
  fK (.exc (cname .InvalidAmount)),
  kGlo "law"]
def fn : List Df := [d_l_pick, d_l_parts, d_is_integer, d_common_divisor, d_Amount_init, d_l_whole, d_Amount_top, d_Amount_bottom, d_l_gcd, d_l_is, d_l_case, d_l_jar, d_law]
def n_common_divisor_1 : Rh → Nat := fuI 1
def n_l_gcd_1 : Rh → Nat := fuI 1
noncomputable def b_l_pick : SS := (sSeq (sSet (gN 2) (eOp oMod (eBf bInt (pCons (eIxV 0 (eC (.int 0))) pNil)) (eV 1)))
  (sSeq (sSetI 0 (eOp oFdiv (eBf bInt (pCons (eIxV 0 (eC (.int 0))) pNil)) (eV 1)) (eC (.int 0)))
  (sRet (eV 2))))
noncomputable def F_l_pick : Fn := fnOf 2 1 b_l_pick
noncomputable def b_l_parts : SS := (sSeq (sSet (gN 1) (eR (eCall F_l_pick [] (aCons (aO 0) (aCons (aP (eC (.int 4))) aNil)))))
  (sSeq (sSet (gN 2) (eOp oSub (eC (.int 1)) (eOp oMul (eC (.int 2)) (eR (eCall F_l_pick [] (aCons (aO 0) (aCons (aP (eC (.int 2))) aNil)))))))
  (sSeq (sIf (eBl (eOp oEq (eV 1) (eC (.int 3))))
  (sSeq (sSet (gN 3) (eOp oMul (eV 2) (eOp oAdd (eC (.int 1)) (eR (eCall F_l_pick [] (aCons (aO 0) (aCons (aP (eC (.int 10000))) aNil)))))))
  (sRet (eTup (pCons (eOp oMul (eV 3) (eOp oSub (eR (eCall F_l_pick [] (aCons (aO 0) (aCons (aP (eC (.int 200001))) aNil)))) (eC (.int 100000)))) (pCons (eV 3) pNil))))) sNx)
  (sSeq (sSet (gN 4) (eOp oAdd (eC (.int 1)) (eR (eCall F_l_pick [] (aCons (aO 0) (aCons (aP (eOp ixP (eLst (pCons (eC (.int 1)) (pCons (eC (.int 12)) (pCons (eC (.int 30000)) pNil)))) (eV 1))) aNil))))))
  (sSeq (sSet (gN 5) (eOp oFdiv (eOp oPow (eC (.int 10)) (eC (.int 9))) (eV 4)))
  (sSeq (sSet (gN 6) (eOp oSub (eR (eCall F_l_pick [] (aCons (aO 0) (aCons (aP (eOp oAdd (eOp oMul (eC (.int 2)) (eV 5)) (eC (.int 1)))) aNil)))) (eV 5)))
  (sSeq (sIf (eBl (eOp oEq (eR (eCall F_l_pick [] (aCons (aO 0) (aCons (aP (eC (.int 8))) aNil)))) (eC (.int 0))))
  (sSet (gN 6) (eOp ixP (eLst (pCons (eC (.int 0)) (pCons (eC (.int 1)) (pCons (eUn oNeg (eC (.int 1))) (pCons (eV 5) pNil))))) (eR (eCall F_l_pick [] (aCons (aO 0) (aCons (aP (eC (.int 4))) aNil)))))) sNx)
  (sRet (eTup (pCons (eOp oMul (eV 6) (eV 4)) (pCons (eOp oMul (eOp oMul (eV 2) (eV 4)) (eOp oAdd (eC (.int 1)) (eR (eCall F_l_pick [] (aCons (aO 0) (aCons (aP (eV 5)) aNil)))))) pNil)))))))))))
noncomputable def F_l_parts : Fn := fnOf 1 6 b_l_parts
noncomputable def b_is_integer : SS := (sRet (eAnd (eBf (bIsi isiG) (pCons (eV 0) (pCons (eC (.ty "int")) pNil))) (eNot (eBf (bIsi isiG) (pCons (eV 0) (pCons (eC (.ty "bool")) pNil))))))
noncomputable def F_is_integer : Fn := fnOf 1 0 b_is_integer
noncomputable def t_common_divisor_1 : SM Bool := (eBl (eOp oGt (eV 1) (eC (.int 0))))
noncomputable def w_common_divisor_1 : SS := (sPar 0 1 (pCons (eV 1) (pCons (eOp oMod (eBf bInt (pCons (eV 0) pNil)) (eV 1)) pNil)))
noncomputable def b_common_divisor : SS := (sSeq (sSet (gN 0) (eBf bAbs (pCons (eV 0) pNil)))
  (sSeq (sSet (gN 1) (eBf bAbs (pCons (eV 1) pNil)))
  (sSeq (sWhile n_common_divisor_1 t_common_divisor_1 w_common_divisor_1)
  (sRet (eV 0)))))
noncomputable def F_common_divisor : Fn := fnOf 2 0 b_common_divisor
noncomputable def b_Amount_init : SS := (sSeq (sIf (tOrM (tNotM (eBl (eR (eCall F_is_integer [] (aCons (aP (eV 1)) aNil))))) (tOrM (tNotM (eBl (eR (eCall F_is_integer [] (aCons (aP (eV 2)) aNil))))) (eBl (eOp oEq (eV 2) (eC (.int 0))))))
  (sRaise .InvalidAmount) sNx)
  (sSeq (sSet (gN 3) (eR (eCall F_common_divisor [] (aCons (aP (eV 1)) (aCons (aP (eV 2)) aNil)))))
  (sSeq (sIf (eBl (eOp oLt (eV 2) (eC (.int 0))))
  (sSet (gN 3) (eUn oNeg (eV 3))) sNx)
  (sSeq (sSetF 0 (fiL [(.Amount, 0)]) (eOp oFdiv (eV 1) (eV 3)))
  (sSetF 0 (fiL [(.Amount, 1)]) (eOp oFdiv (eV 2) (eV 3)))))))
noncomputable def F_Amount_init : Fn := fnOf 3 1 b_Amount_init
noncomputable def b_l_whole : SS := (sRet (eAnd (eBf (bIsi isiG) (pCons (eV 0) (pCons (eC (.ty "int")) pNil))) (eNot (eBf (bIsi isiG) (pCons (eV 0) (pCons (eC (.ty "bool")) pNil))))))
noncomputable def F_l_whole : Fn := fnOf 1 0 b_l_whole
noncomputable def b_Amount_top : SS := (sRet (eR (eAtt (atL [(.Amount, .fld 0)]) (aP (eV 0)))))
noncomputable def F_Amount_top : Fn := fnOf 1 0 b_Amount_top
noncomputable def b_Amount_bottom : SS := (sRet (eR (eAtt (atL [(.Amount, .fld 1)]) (aP (eV 0)))))
noncomputable def F_Amount_bottom : Fn := fnOf 1 0 b_Amount_bottom
noncomputable def t_l_gcd_1 : SM Bool := (eBl (eOp oGt (eV 1) (eC (.int 0))))
noncomputable def w_l_gcd_1 : SS := (sPar 0 1 (pCons (eV 1) (pCons (eOp oMod (eBf bInt (pCons (eV 0) pNil)) (eV 1)) pNil)))
noncomputable def b_l_gcd : SS := (sSeq (sSet (gN 0) (eBf bAbs (pCons (eV 0) pNil)))
  (sSeq (sSet (gN 1) (eBf bAbs (pCons (eV 1) pNil)))
  (sSeq (sWhile n_l_gcd_1 t_l_gcd_1 w_l_gcd_1)
  (sRet (eV 0)))))
noncomputable def F_l_gcd : Fn := fnOf 2 0 b_l_gcd
noncomputable def b_l_is : SS := (sSeq (sIf (tOrM (tNotM (eBl (eBf (bIsi isiG) (pCons (eV 0) (pCons (eC (.cls .Amount)) pNil))))) (tOrM (tNotM (eBl (eR (eCall F_l_whole [] (aCons (aP (eR (eAtt (atL [(.Amount, .prop F_Amount_top)]) (aP (eV 0))))) aNil))))) (tNotM (eBl (eR (eCall F_l_whole [] (aCons (aP (eR (eAtt (atL [(.Amount, .prop F_Amount_bottom)]) (aP (eV 0))))) aNil)))))))
  (sRet (eC (.bl false))) sNx)
  (sSeq (sSet (gN 3) (eR (eCall F_l_gcd [] (aCons (aP (eV 1)) (aCons (aP (eV 2)) aNil)))))
  (sSeq (sIf (eBl (eOp oLt (eV 2) (eC (.int 0))))
  (sSet (gN 3) (eUn oNeg (eV 3))) sNx)
  (sRet (eAnd (eOp oEq (eR (eAtt (atL [(.Amount, .prop F_Amount_top)]) (aP (eV 0)))) (eOp oFdiv (eV 1) (eV 3))) (eOp oEq (eR (eAtt (atL [(.Amount, .prop F_Amount_bottom)]) (aP (eV 0)))) (eOp oFdiv (eV 2) (eV 3))))))))
noncomputable def F_l_is : Fn := fnOf 3 1 b_l_is
noncomputable def b_l_case : SS := (sSeq (sSet (gT (gsCons (gN 1) (gsCons (gN 2) gsNil))) (eR (eCall F_l_parts [] (aCons (aO 0) aNil))))
  (sSeq (sSet (gT (gsCons (gN 3) (gsCons (gN 4) gsNil))) (eR (eCall F_l_parts [] (aCons (aO 0) aNil))))
  (sSeq (sSet (gN 5) (eMake .Amount F_Amount_init [] (aCons (aP (eV 1)) (aCons (aP (eV 2)) aNil))))
  (sSeq (sIf (tNotM (eBl (eR (eCall F_l_is [] (aCons (aP (eV 5)) (aCons (aP (eV 1)) (aCons (aP (eV 2)) aNil)))))))
  (sRet (eC (.bl false))) sNx)
  (sSeq (sSet (gN 6) (eMake .Amount F_Amount_init [.int 1] (aCons (aP (eV 1)) aNil)))
  (sSeq (sSet (gN 7) (eMake .Amount F_Amount_init [] (aCons (aP (eV 3)) (aCons (aP (eV 4)) aNil))))
  (sRet (eAnd (eR (eCall F_l_is [] (aCons (aP (eV 6)) (aCons (aP (eV 1)) (aCons (aP (eC (.int 1))) aNil))))) (eAnd (eR (eCall F_l_is [] (aCons (aP (eV 7)) (aCons (aP (eV 3)) (aCons (aP (eV 4)) aNil))))) (eR (eCall F_l_is [] (aCons (aP (eV 5)) (aCons (aP (eV 1)) (aCons (aP (eV 2)) aNil))))))))))))))
noncomputable def F_l_case : Fn := fnOf 1 7 b_l_case
noncomputable def w_l_jar_1 : SS := (sSeq (sSet (gN 3) (eOp oMod (eBf bInt (pCons (eOp oAdd (eOp oAdd (eOp oAdd (eOp oMul (eOp oMul (eV 3) (eV 3)) (eC (.int 3))) (eOp oMul (eV 3) (eOp oAdd (eV 5) (eC (.int 2))))) (eOp oMul (eC (.int 19)) (eV 1))) (eC (.int 71))) pNil)) (eC (.int 2147483587))))
  (sSet (gN 4) (eOp oAdd (eOp oMul (eV 4) (eC (.int 1000033))) (eOp oMod (eBf bInt (pCons (eOp oFdiv (eV 3) (eC (.int 5))) pNil)) (eC (.int 1000033))))))
noncomputable def b_l_jar : SS := (sSeq (sSet (gN 2) (eC (.int 0)))
  (sSeq (sIf (eBl (eOp oLt (eV 1) (eLen (eB 0))))
  (sSet (gN 2) (eIxV 0 (eV 1))) sNx)
  (sSeq (sIf (eBl (eOp oGe (eV 2) (eOp oPow (eC (.int 10)) (eC (.int 18)))))
  (sRetW (eLst (pCons (eOp oSub (eV 2) (eOp oPow (eC (.int 10)) (eC (.int 18)))) pNil))) sNx)
  (sSeq (sSet (gN 3) (eOp oAdd (eOp oAdd (eOp oMod (eBf bInt (pCons (eV 2) pNil)) (eC (.int 2147483647))) (eOp oMul (eC (.int 101)) (eV 1))) (eC (.int 7))))
  (sSeq (sSet (gN 4) (eC (.int 0)))
  (sSeq (sFor (iR1 (pCons (eC (.int 40)) pNil)) (gN 5) w_l_jar_1 [5])
  (sRetW (eLst (pCons (eV 4) pNil)))))))))
noncomputable def F_l_jar : Fn := fnOf 2 4 b_l_jar
noncomputable def w_law_1 : SS := (sIf (tNotM (eBl (eR (eCallT F_l_case [] (eRN (eCall F_l_jar [] (aCons (aP (eV 0)) (aCons (aP (eV 1)) aNil))))))))
  (sRet (eC (.bl false))) sNx)
noncomputable def b_law : SS := (sSeq (sFor (iR1 (pCons (eBf bMax (pCons (eC (.int 1)) (pCons (eBf bMin (pCons (eLen (eB 0)) (pCons (eC (.int 20)) pNil))) pNil))) pNil)) (gN 1) w_law_1 [1])
  (sRet (eC (.bl true))))
noncomputable def F_law : Fn := fnOf 1 1 b_law
theorem sc_l_pick : FnScope (["_law_jar_here", "_law_many", "_law_found"] : List Str) (["_law_jar_here", "_law_many"] : List Str) (defScope s_l_pick) := ⟨rfl, rfl, rfl, by decide +kernel, rfl, by decide +kernel, by decide +kernel⟩
theorem sc_l_parts : FnScope (["_law_jar_here", "_law_shape", "_law_sign", "_law_bottom", "_law_factor", "_law_limit", "_law_top"] : List Str) (["_law_jar_here"] : List Str) (defScope s_l_parts) := ⟨rfl, rfl, rfl, by decide +kernel, rfl, by decide +kernel, by decide +kernel⟩
theorem sc_is_integer : FnScope (["value"] : List Str) (["value"] : List Str) (defScope s_is_integer) := ⟨rfl, rfl, rfl, by decide +kernel, rfl, by decide +kernel, by decide +kernel⟩
theorem sc_common_divisor : FnScope (["one", "other"] : List Str) (["one", "other"] : List Str) (defScope s_common_divisor) := ⟨rfl, rfl, rfl, by decide +kernel, rfl, by decide +kernel, by decide +kernel⟩
theorem sc_Amount_init : FnScope (["self", "top", "bottom", "common"] : List Str) (["self", "top", "bottom"] : List Str) (defScope s_Amount_init) := ⟨rfl, rfl, rfl, by decide +kernel, rfl, by decide +kernel, by decide +kernel⟩
theorem sc_l_whole : FnScope (["_law_found"] : List Str) (["_law_found"] : List Str) (defScope s_l_whole) := ⟨rfl, rfl, rfl, by decide +kernel, rfl, by decide +kernel, by decide +kernel⟩
theorem sc_Amount_top : FnScope (["self"] : List Str) (["self"] : List Str) (defScope s_Amount_top) := ⟨rfl, rfl, rfl, by decide +kernel, rfl, by decide +kernel, by decide +kernel⟩
theorem sc_Amount_bottom : FnScope (["self"] : List Str) (["self"] : List Str) (defScope s_Amount_bottom) := ⟨rfl, rfl, rfl, by decide +kernel, rfl, by decide +kernel, by decide +kernel⟩
theorem sc_l_gcd : FnScope (["_law_one", "_law_other"] : List Str) (["_law_one", "_law_other"] : List Str) (defScope s_l_gcd) := ⟨rfl, rfl, rfl, by decide +kernel, rfl, by decide +kernel, by decide +kernel⟩
theorem sc_l_is : FnScope (["_law_amount", "_law_top", "_law_bottom", "_law_common"] : List Str) (["_law_amount", "_law_top", "_law_bottom"] : List Str) (defScope s_l_is) := ⟨rfl, rfl, rfl, by decide +kernel, rfl, by decide +kernel, by decide +kernel⟩
theorem sc_l_case : FnScope (["_law_jar_here", "_law_top", "_law_bottom", "_law_other_top", "_law_other_bottom", "_law_made", "_law_plain", "_law_other"] : List Str) (["_law_jar_here"] : List Str) (defScope s_l_case) := ⟨rfl, rfl, rfl, by decide +kernel, rfl, by decide +kernel, by decide +kernel⟩
theorem sc_l_jar : FnScope (["_law_script", "_law_at", "_law_cell", "_law_part", "_law_rest", "_law_turn"] : List Str) (["_law_script", "_law_at"] : List Str) (defScope s_l_jar) := ⟨rfl, rfl, rfl, by decide +kernel, rfl, by decide +kernel, by decide +kernel⟩
theorem sc_law : FnScope (["_law_script", "_law_at"] : List Str) (["_law_script"] : List Str) (defScope s_law) := ⟨rfl, rfl, rfl, by decide +kernel, rfl, by decide +kernel, by decide +kernel⟩
section
variable {P : Program} {w : World} {K : PySem.W.Frag} {h : Heap} {mg : Str → Option Value} {base : Heap} (X : K.In h) (G : h.Ns mainGlobals mg) (c : SaysY fb fn K)
include X G c
theorem g_l_jar : mg "_law_jar" = some (.ref (He.ga K "_law_jar")) := He.glo_ok X G (c.fact 1)
theorem g_l_case : mg "_law_case" = some (.ref (He.ga K "_law_case")) := He.glo_ok X G (c.fact 2)
theorem g_l_parts : mg "_law_parts" = some (.ref (He.ga K "_law_parts")) := He.glo_ok X G (c.fact 3)
theorem g_Amount : mg "Amount" = some (.ref (He.ga K "Amount")) := He.glo_ok X G (c.fact 4)
theorem g_l_is : mg "_law_is" = some (.ref (He.ga K "_law_is")) := He.glo_ok X G (c.fact 5)
theorem g_l_pick : mg "_law_pick" = some (.ref (He.ga K "_law_pick")) := He.glo_ok X G (c.fact 6)
theorem g_is_integer : mg "is_integer" = some (.ref (He.ga K "is_integer")) := He.glo_ok X G (c.fact 7)
theorem g_InvalidAmount : mg "InvalidAmount" = some (.ref (He.ga K "InvalidAmount")) := He.glo_ok X G (c.fact 8)
theorem g_common_divisor : mg "common_divisor" = some (.ref (He.ga K "common_divisor")) := He.glo_ok X G (c.fact 9)
theorem g_l_whole : mg "_law_whole" = some (.ref (He.ga K "_law_whole")) := He.glo_ok X G (c.fact 10)
theorem g_l_gcd : mg "_law_gcd" = some (.ref (He.ga K "_law_gcd")) := He.glo_ok X G (c.fact 11)
theorem f_len : mg "len" = none := He.free_ok X G (c.fact 12)
theorem f_min : mg "min" = none := He.free_ok X G (c.fact 13)
theorem f_max : mg "max" = none := He.free_ok X G (c.fact 14)
theorem f_range : mg "range" = none := He.free_ok X G (c.fact 15)
theorem f_int : mg "int" = none := He.free_ok X G (c.fact 16)
theorem f_isinstance : mg "isinstance" = none := He.free_ok X G (c.fact 17)
theorem f_bool : mg "bool" = none := He.free_ok X G (c.fact 18)
theorem f_abs : mg "abs" = none := He.free_ok X G (c.fact 19)
omit X G
theorem i_isi : Isi (sgOf K) isiC isiG := kIsi_ok (c.fact 0)
theorem a_Amount_above {X : Cx} : AttOk X (sgOf K) "above" .Amount (.fld 0) := fld_ok (c.fact 20) (c.fact 21)
theorem a_Amount_below {X : Cx} : AttOk X (sgOf K) "below" .Amount (.fld 1) := fld_ok (c.fact 20) (c.fact 22)
theorem e_InvalidAmount : ExcOk (sgOf K) .InvalidAmount := exc_ok (c.fact 26)
include X G
theorem body_l_pick : BodyOk P w (sgOf K) mg base 0 (["_law_jar_here", "_law_many", "_law_found"] : List Str) d_l_pick b_l_pick := by
  intro cdv A outer s H E φ hr
  exact (js_cons (js_set 2 sc_l_pick.nd (je_op o_mod (je_bt b_int (f_int X G c) (jp_cons (je_ixV 0 rfl je_int) jp_nil)) (je_v 1)))
    (js_cons (js_seti 0 (je_op o_fdiv (je_bt b_int (f_int X G c) (jp_cons (je_ixV 0 rfl je_int) jp_nil)) (je_v 1)) je_int)
    (js_one (js_ret (je_v 2)))))
theorem ok_l_pick : Dn P w (sgOf K) mg base 1 (He.ga K "_law_pick") [] F_l_pick := dn_all (d := d_l_pick) (c.def_ 0) rfl sc_l_pick rfl (fun _ _ _ _ _ _ us hl => match us, hl with | [_, _], _ => rfl) (body_l_pick X G c)
theorem body_l_parts : BodyOk P w (sgOf K) mg base 2 (["_law_jar_here", "_law_shape", "_law_sign", "_law_bottom", "_law_factor", "_law_limit", "_law_top"] : List Str) d_l_parts b_l_parts := by
  intro cdv A outer s H E φ hr
  exact (js_cons (js_set 1 sc_l_parts.nd (JR.toE (jr_call tk_cx ((ok_l_pick X G c).cal hr) (g_l_pick X G c) (ok_l_pick (P := P) (w := w) (base := base) X G c).kp (ja_cons (jx_o 0) (ja_cons (jx_e je_int) ja_nil)))))
    (js_cons (js_set 2 sc_l_parts.nd (je_op o_sub je_int (je_op o_mul je_int (JR.toE (jr_call tk_cx ((ok_l_pick X G c).cal hr) (g_l_pick X G c) (ok_l_pick (P := P) (w := w) (base := base) X G c).kp (ja_cons (jx_o 0) (ja_cons (jx_e je_int) ja_nil)))))))
    (js_cons (js_if (jt_cmp o_eq (je_v 1) je_int (nomark _))
    (js_cons (js_set 3 sc_l_parts.nd (je_op o_mul (je_v 2) (je_op o_addI je_int (JR.toE (jr_call tk_cx ((ok_l_pick X G c).cal hr) (g_l_pick X G c) (ok_l_pick (P := P) (w := w) (base := base) X G c).kp (ja_cons (jx_o 0) (ja_cons (jx_e je_int) ja_nil)))))))
    (js_one (js_ret (je_tup (jp_cons (je_op o_mul (je_v 3) (je_op o_sub (JR.toE (jr_call tk_cx ((ok_l_pick X G c).cal hr) (g_l_pick X G c) (ok_l_pick (P := P) (w := w) (base := base) X G c).kp (ja_cons (jx_o 0) (ja_cons (jx_e je_int) ja_nil)))) je_int)) (jp_cons (je_v 3) jp_nil)))))) js_nil)
    (js_cons (js_set 4 sc_l_parts.nd (je_op o_addI je_int (JR.toE (jr_call tk_cx ((ok_l_pick X G c).cal hr) (g_l_pick X G c) (ok_l_pick (P := P) (w := w) (base := base) X G c).kp (ja_cons (jx_o 0) (ja_cons (jx_e (je_ix rfl (JN.toE (jn_lst (jp_cons je_int (jp_cons je_int (jp_cons je_int jp_nil))))) (je_v 1))) ja_nil))))))
    (js_cons (js_set 5 sc_l_parts.nd (je_op o_fdiv (je_op o_pow je_int je_int) (je_v 4)))
    (js_cons (js_set 6 sc_l_parts.nd (je_op o_sub (JR.toE (jr_call tk_cx ((ok_l_pick X G c).cal hr) (g_l_pick X G c) (ok_l_pick (P := P) (w := w) (base := base) X G c).kp (ja_cons (jx_o 0) (ja_cons (jx_e (je_op o_addI (je_op o_mul je_int (je_v 5)) je_int)) ja_nil)))) (je_v 5)))
    (js_cons (js_if (jt_cmp o_eq (JR.toE (jr_call tk_cx ((ok_l_pick X G c).cal hr) (g_l_pick X G c) (ok_l_pick (P := P) (w := w) (base := base) X G c).kp (ja_cons (jx_o 0) (ja_cons (jx_e je_int) ja_nil)))) je_int (nomark _))
    (js_one (js_set 6 sc_l_parts.nd (je_ix rfl (JN.toE (jn_lst (jp_cons je_int (jp_cons je_int (jp_cons (je_neg je_int) (jp_cons (je_v 5) jp_nil)))))) (JR.toE (jr_call tk_cx ((ok_l_pick X G c).cal hr) (g_l_pick X G c) (ok_l_pick (P := P) (w := w) (base := base) X G c).kp (ja_cons (jx_o 0) (ja_cons (jx_e je_int) ja_nil))))))) js_nil)
    (js_one (js_ret (je_tup (jp_cons (je_op o_mul (je_v 6) (je_v 4)) (jp_cons (je_op o_mul (je_op o_mul (je_v 2) (je_v 4)) (je_op o_addI je_int (JR.toE (jr_call tk_cx ((ok_l_pick X G c).cal hr) (g_l_pick X G c) (ok_l_pick (P := P) (w := w) (base := base) X G c).kp (ja_cons (jx_o 0) (ja_cons (jx_e (je_v 5)) ja_nil)))))) jp_nil))))))))))))
theorem ok_l_parts : Dn P w (sgOf K) mg base 3 (He.ga K "_law_parts") [] F_l_parts := dn_all (d := d_l_parts) (c.def_ 1) rfl sc_l_parts rfl (fun _ _ _ _ _ _ us hl => match us, hl with | [_], _ => rfl) (body_l_parts X G c)
theorem body_is_integer : BodyOk P w (sgOf K) mg base 0 (["value"] : List Str) d_is_integer b_is_integer := by
  intro cdv A outer s H E φ hr
  exact (js_one (js_ret (je_and (je_bf (b_isi rfl (i_isi c)) (f_isinstance X G c) (jp_cons (je_v 0) (jp_cons (je_ty (f_int X G c)) jp_nil))) (je_one (je_not (je_bf (b_isi rfl (i_isi c)) (f_isinstance X G c) (jp_cons (je_v 0) (jp_cons (je_ty (f_bool X G c)) jp_nil))))))))
theorem ok_is_integer : Dn P w (sgOf K) mg base 1 (He.ga K "is_integer") [] F_is_integer := dn_all (d := d_is_integer) (c.def_ 2) rfl sc_is_integer rfl (fun _ _ _ _ _ _ us hl => match us, hl with | [_], _ => rfl) (body_is_integer X G c)
theorem body_common_divisor : BodyOk P w (sgOf K) mg base 0 (["one", "other"] : List Str) d_common_divisor b_common_divisor := by
  intro cdv A outer s H E φ hr
  exact (js_cons (js_set 0 sc_common_divisor.nd (je_bf b_abs (f_abs X G c) (jp_cons (je_v 0) jp_nil)))
    (js_cons (js_set 1 sc_common_divisor.nd (je_bf b_abs (f_abs X G c) (jp_cons (je_v 1) jp_nil)))
    (js_cons (js_while n_common_divisor_1 (hp_cx) (jt_cmp o_gt (je_v 1) je_int (nomark _))
    (js_one (js_par 0 1 rfl sc_common_divisor.nd (je_v 1) (je_op o_mod (je_bt b_int (f_int X G c) (jp_cons (je_v 0) jp_nil)) (je_v 1)))))
    (js_one (js_ret (je_v 0))))))
theorem ok_common_divisor : Dn P w (sgOf K) mg base 1 (He.ga K "common_divisor") [] F_common_divisor := dn_all (d := d_common_divisor) (c.def_ 3) rfl sc_common_divisor rfl (fun _ _ _ _ _ _ us hl => match us, hl with | [_, _], _ => rfl) (body_common_divisor X G c)
theorem body_Amount_init : BodyOk P w (sgOf K) mg base 2 (["self", "top", "bottom", "common"] : List Str) d_Amount_init b_Amount_init := by
  intro cdv A outer s H E φ hr
  exact (js_cons (js_if (jt_w (JT.or (jt_not (jt_val (JR.toE (jr_call tk_cx ((ok_is_integer X G c).cal hr) (g_is_integer X G c) (ok_is_integer (P := P) (w := w) (base := base) X G c).kp (ja_cons (jx_e (je_v 1)) ja_nil))))) (JT.or (jt_not (jt_val (JR.toE (jr_call tk_cx ((ok_is_integer X G c).cal hr) (g_is_integer X G c) (ok_is_integer (P := P) (w := w) (base := base) X G c).kp (ja_cons (jx_e (je_v 2)) ja_nil))))) (JT.or1 (jt_cmp o_eq (je_v 2) je_int (nomark _))))))
    (js_one (js_raise rfl tk_cx rfl (e_InvalidAmount c) (g_InvalidAmount X G c))) js_nil)
    (js_cons (js_set 3 sc_Amount_init.nd (JR.toE (jr_call tk_cx ((ok_common_divisor X G c).cal hr) (g_common_divisor X G c) (ok_common_divisor (P := P) (w := w) (base := base) X G c).kp (ja_cons (jx_e (je_v 1)) (ja_cons (jx_e (je_v 2)) ja_nil)))))
    (js_cons (js_if (jt_cmp o_lt (je_v 2) je_int (nomark _))
    (js_one (js_set 3 sc_Amount_init.nd (je_neg (je_v 3)))) js_nil)
    (js_cons (js_setf 0 (tab := fiL [(.Amount, 0)]) rfl (fi_cons (a_Amount_above c) fi_nil) (je_op o_fdiv (je_v 1) (je_v 3)))
    (js_one (js_setf 0 (tab := fiL [(.Amount, 1)]) rfl (fi_cons (a_Amount_below c) fi_nil) (je_op o_fdiv (je_v 2) (je_v 3))))))))
theorem ok_Amount_init : Dn P w (sgOf K) mg base 3 (pa K .Amount "__init__") [] F_Amount_init := dn_dfl (d := d_Amount_init) (c.def_ 4) 3 1 [] (by simp [d_Amount_init]) rfl (fun _ => rfl) sc_Amount_init rfl (fun _ _ _ _ _ _ _ us its h1 h2 => match us, its, h1, h2 with | [_, _, _], [_], _, _ => ⟨_, rfl, rfl⟩) (body_Amount_init X G c)
theorem ok_Amount_init_d1 : Dn P w (sgOf K) mg base 3 (pa K .Amount "__init__") [.int 1] F_Amount_init := dn_dfl (d := d_Amount_init) (c.def_ 4) 2 0 [.int 1] (by simp [d_Amount_init]) rfl (fun _ => ⟨_, _, rfl, rfl, rfl⟩) sc_Amount_init rfl (fun _ _ _ _ _ _ _ us its h1 h2 => match us, its, h1, h2 with | [_, _], [_], _, _ => ⟨_, rfl, rfl⟩) (body_Amount_init X G c)
theorem body_l_whole : BodyOk P w (sgOf K) mg base 0 (["_law_found"] : List Str) d_l_whole b_l_whole := by
  intro cdv A outer s H E φ hr
  exact (js_one (js_ret (je_and (je_bf (b_isi rfl (i_isi c)) (f_isinstance X G c) (jp_cons (je_v 0) (jp_cons (je_ty (f_int X G c)) jp_nil))) (je_one (je_not (je_bf (b_isi rfl (i_isi c)) (f_isinstance X G c) (jp_cons (je_v 0) (jp_cons (je_ty (f_bool X G c)) jp_nil))))))))
theorem ok_l_whole : Dn P w (sgOf K) mg base 1 (He.ga K "_law_whole") [] F_l_whole := dn_all (d := d_l_whole) (c.def_ 5) rfl sc_l_whole rfl (fun _ _ _ _ _ _ us hl => match us, hl with | [_], _ => rfl) (body_l_whole X G c)
theorem body_Amount_top : BodyOk P w (sgOf K) mg base 0 (["self"] : List Str) d_Amount_top b_Amount_top := by
  intro cdv A outer s H E φ hr
  exact (js_one (js_ret (JR.toE (jr_att (tab := atL [(.Amount, .fld 0)]) rfl (at_cons (a_Amount_above c) at_nil) (jx_e (je_v 0))))))
theorem ok_Amount_top : Dn P w (sgOf K) mg base 1 (pg K .Amount "top") [] F_Amount_top := dn_all (d := d_Amount_top) (c.def_ 6) rfl sc_Amount_top rfl (fun _ _ _ _ _ _ us hl => match us, hl with | [_], _ => rfl) (body_Amount_top X G c)
theorem body_Amount_bottom : BodyOk P w (sgOf K) mg base 0 (["self"] : List Str) d_Amount_bottom b_Amount_bottom := by
  intro cdv A outer s H E φ hr
  exact (js_one (js_ret (JR.toE (jr_att (tab := atL [(.Amount, .fld 1)]) rfl (at_cons (a_Amount_below c) at_nil) (jx_e (je_v 0))))))
theorem ok_Amount_bottom : Dn P w (sgOf K) mg base 1 (pg K .Amount "bottom") [] F_Amount_bottom := dn_all (d := d_Amount_bottom) (c.def_ 7) rfl sc_Amount_bottom rfl (fun _ _ _ _ _ _ us hl => match us, hl with | [_], _ => rfl) (body_Amount_bottom X G c)
theorem body_l_gcd : BodyOk P w (sgOf K) mg base 0 (["_law_one", "_law_other"] : List Str) d_l_gcd b_l_gcd := by
  intro cdv A outer s H E φ hr
  exact (js_cons (js_set 0 sc_l_gcd.nd (je_bf b_abs (f_abs X G c) (jp_cons (je_v 0) jp_nil)))
    (js_cons (js_set 1 sc_l_gcd.nd (je_bf b_abs (f_abs X G c) (jp_cons (je_v 1) jp_nil)))
    (js_cons (js_while n_l_gcd_1 (hp_cx) (jt_cmp o_gt (je_v 1) je_int (nomark _))
    (js_one (js_par 0 1 rfl sc_l_gcd.nd (je_v 1) (je_op o_mod (je_bt b_int (f_int X G c) (jp_cons (je_v 0) jp_nil)) (je_v 1)))))
    (js_one (js_ret (je_v 0))))))
theorem ok_l_gcd : Dn P w (sgOf K) mg base 1 (He.ga K "_law_gcd") [] F_l_gcd := dn_all (d := d_l_gcd) (c.def_ 8) rfl sc_l_gcd rfl (fun _ _ _ _ _ _ us hl => match us, hl with | [_, _], _ => rfl) (body_l_gcd X G c)
theorem body_l_is : BodyOk P w (sgOf K) mg base 2 (["_law_amount", "_law_top", "_law_bottom", "_law_common"] : List Str) d_l_is b_l_is := by
  intro cdv A outer s H E φ hr
  exact (js_cons (js_if (jt_w (JT.or (jt_not (jt_val (je_bf (b_isi rfl (i_isi c)) (f_isinstance X G c) (jp_cons (je_v 0) (jp_cons (je_cls rfl (g_Amount X G c)) jp_nil))))) (JT.or (jt_not (jt_val (JR.toE (jr_call tk_cx ((ok_l_whole X G c).cal hr) (g_l_whole X G c) (ok_l_whole (P := P) (w := w) (base := base) X G c).kp (ja_cons (jx_e (JR.toE (jr_att (tab := atL [(.Amount, .prop F_Amount_top)]) rfl (at_cons (prop_ok (c.fact 20) (c.fact 24) ((ok_Amount_top X G c).cal hr)) at_nil) (jx_e (je_v 0))))) ja_nil))))) (JT.or1 (jt_not (jt_val (JR.toE (jr_call tk_cx ((ok_l_whole X G c).cal hr) (g_l_whole X G c) (ok_l_whole (P := P) (w := w) (base := base) X G c).kp (ja_cons (jx_e (JR.toE (jr_att (tab := atL [(.Amount, .prop F_Amount_bottom)]) rfl (at_cons (prop_ok (c.fact 20) (c.fact 25) ((ok_Amount_bottom X G c).cal hr)) at_nil) (jx_e (je_v 0))))) ja_nil)))))))))
    (js_one (js_ret je_bl)) js_nil)
    (js_cons (js_set 3 sc_l_is.nd (JR.toE (jr_call tk_cx ((ok_l_gcd X G c).cal hr) (g_l_gcd X G c) (ok_l_gcd (P := P) (w := w) (base := base) X G c).kp (ja_cons (jx_e (je_v 1)) (ja_cons (jx_e (je_v 2)) ja_nil)))))
    (js_cons (js_if (jt_cmp o_lt (je_v 2) je_int (nomark _))
    (js_one (js_set 3 sc_l_is.nd (je_neg (je_v 3)))) js_nil)
    (js_one (js_ret (je_and (je_cmp o_eq (JR.toE (jr_att (tab := atL [(.Amount, .prop F_Amount_top)]) rfl (at_cons (prop_ok (c.fact 20) (c.fact 24) ((ok_Amount_top X G c).cal hr)) at_nil) (jx_e (je_v 0)))) (je_op o_fdiv (je_v 1) (je_v 3)) (nomark _)) (je_one (je_cmp o_eq (JR.toE (jr_att (tab := atL [(.Amount, .prop F_Amount_bottom)]) rfl (at_cons (prop_ok (c.fact 20) (c.fact 25) ((ok_Amount_bottom X G c).cal hr)) at_nil) (jx_e (je_v 0)))) (je_op o_fdiv (je_v 2) (je_v 3)) (nomark _)))))))))
theorem ok_l_is : Dn P w (sgOf K) mg base 3 (He.ga K "_law_is") [] F_l_is := dn_all (d := d_l_is) (c.def_ 9) rfl sc_l_is rfl (fun _ _ _ _ _ _ us hl => match us, hl with | [_, _, _], _ => rfl) (body_l_is X G c)
theorem body_l_case : BodyOk P w (sgOf K) mg base 4 (["_law_jar_here", "_law_top", "_law_bottom", "_law_other_top", "_law_other_bottom", "_law_made", "_law_plain", "_law_other"] : List Str) d_l_case b_l_case := by
  intro cdv A outer s H E φ hr
  exact (js_cons (js_asg (JR.toE (jr_call tk_cx ((ok_l_parts X G c).cal hr) (g_l_parts X G c) (ok_l_parts (P := P) (w := w) (base := base) X G c).kp (ja_cons (jx_o 0) ja_nil))) (jg_t rfl rfl (jgs_cons (jg_n sc_l_case.nd (i := 1)) (jgs_cons (jg_n sc_l_case.nd (i := 2)) jgs_nil)) gs2_len))
    (js_cons (js_asg (JR.toE (jr_call tk_cx ((ok_l_parts X G c).cal hr) (g_l_parts X G c) (ok_l_parts (P := P) (w := w) (base := base) X G c).kp (ja_cons (jx_o 0) ja_nil))) (jg_t rfl rfl (jgs_cons (jg_n sc_l_case.nd (i := 3)) (jgs_cons (jg_n sc_l_case.nd (i := 4)) jgs_nil)) gs2_len))
    (js_cons (js_set 5 sc_l_case.nd (JN.toE (jn_make tk_cx rfl (make_ok (c.fact 23) ((ok_Amount_init X G c).cal hr)) (g_Amount X G c) (ja_cons (jx_e (je_v 1)) (ja_cons (jx_e (je_v 2)) ja_nil)))))
    (js_cons (js_if (jt_not (jt_val (JR.toE (jr_call tk_cx ((ok_l_is X G c).cal hr) (g_l_is X G c) (ok_l_is (P := P) (w := w) (base := base) X G c).kp (ja_cons (jx_e (je_v 5)) (ja_cons (jx_e (je_v 1)) (ja_cons (jx_e (je_v 2)) ja_nil)))))))
    (js_one (js_ret je_bl)) js_nil)
    (js_cons (js_set 6 sc_l_case.nd (JN.toE (jn_make tk_cx rfl (make_ok (c.fact 23) ((ok_Amount_init_d1 X G c).cal hr)) (g_Amount X G c) (ja_cons (jx_e (je_v 1)) ja_nil))))
    (js_cons (js_set 7 sc_l_case.nd (JN.toE (jn_make tk_cx rfl (make_ok (c.fact 23) ((ok_Amount_init X G c).cal hr)) (g_Amount X G c) (ja_cons (jx_e (je_v 3)) (ja_cons (jx_e (je_v 4)) ja_nil)))))
    (js_one (js_ret (je_and (JR.toE (jr_call tk_cx ((ok_l_is X G c).cal hr) (g_l_is X G c) (ok_l_is (P := P) (w := w) (base := base) X G c).kp (ja_cons (jx_e (je_v 6)) (ja_cons (jx_e (je_v 1)) (ja_cons (jx_e je_int) ja_nil))))) (je_and (JR.toE (jr_call tk_cx ((ok_l_is X G c).cal hr) (g_l_is X G c) (ok_l_is (P := P) (w := w) (base := base) X G c).kp (ja_cons (jx_e (je_v 7)) (ja_cons (jx_e (je_v 3)) (ja_cons (jx_e (je_v 4)) ja_nil))))) (je_one (JR.toE (jr_call tk_cx ((ok_l_is X G c).cal hr) (g_l_is X G c) (ok_l_is (P := P) (w := w) (base := base) X G c).kp (ja_cons (jx_e (je_v 5)) (ja_cons (jx_e (je_v 1)) (ja_cons (jx_e (je_v 2)) ja_nil))))))))))))))))
theorem ok_l_case : Dn P w (sgOf K) mg base 5 (He.ga K "_law_case") [] F_l_case := dn_all (d := d_l_case) (c.def_ 10) rfl sc_l_case rfl (fun _ _ _ _ _ _ us hl => match us, hl with | [_], _ => rfl) (body_l_case X G c)
theorem body_l_jar : BodyOk P w (sgOf K) mg base 0 (["_law_script", "_law_at", "_law_cell", "_law_part", "_law_rest", "_law_turn"] : List Str) d_l_jar b_l_jar := by
  intro cdv A outer s H E φ hr
  exact (js_cons (js_set 2 sc_l_jar.nd je_int)
    (js_cons (js_if (jt_cmp o_lt (je_v 1) (je_len rfl (f_len X G c) (jb_v 0)) (nomark _))
    (js_one (js_set 2 sc_l_jar.nd (je_ixV 0 rfl (je_v 1)))) js_nil)
    (js_cons (js_if (jt_cmp o_ge (je_v 2) (je_op o_pow je_int je_int) (nomark _))
    (js_one (js_retW (jn_lst (jp_cons (je_op o_sub (je_v 2) (je_op o_pow je_int je_int)) jp_nil)))) js_nil)
    (js_cons (js_set 3 sc_l_jar.nd (je_op o_addI (je_op o_addI (je_op o_mod (je_bt b_int (f_int X G c) (jp_cons (je_v 2) jp_nil)) je_int) (je_op o_mul je_int (je_v 1))) je_int))
    (js_cons (js_set 4 sc_l_jar.nd je_int)
    (js_cons (js_for [5] hp_cx rfl (ji_range1 (f_range X G c) je_int) (jg_n sc_l_jar.nd (i := 5))
    (js_cons (js_set 3 sc_l_jar.nd (je_op o_mod (je_bt b_int (f_int X G c) (jp_cons (je_op o_addI (je_op o_addI (je_op o_addI (je_op o_mul (je_op o_mul (je_v 3) (je_v 3)) je_int) (je_op o_mul (je_v 3) (je_op o_addI (je_v 5) je_int))) (je_op o_mul je_int (je_v 1))) je_int) jp_nil)) je_int))
    (js_one (js_set 4 sc_l_jar.nd (je_op o_addI (je_op o_mul (je_v 4) je_int) (je_op o_mod (je_bt b_int (f_int X G c) (jp_cons (je_op o_fdiv (je_v 3) je_int) jp_nil)) je_int))))))
    (js_one (js_retW (jn_lst (jp_cons (je_v 4) jp_nil))))))))))
theorem ok_l_jar : Dn P w (sgOf K) mg base 1 (He.ga K "_law_jar") [] F_l_jar := dn_all (d := d_l_jar) (c.def_ 11) rfl sc_l_jar rfl (fun _ _ _ _ _ _ us hl => match us, hl with | [_, _], _ => rfl) (body_l_jar X G c)
theorem body_law : BodyOk P w (sgOf K) mg base 6 (["_law_script", "_law_at"] : List Str) d_law b_law := by
  intro cdv A outer s H E φ hr
  exact (js_cons (js_for [1] hp_cx rfl (ji_range1 (f_range X G c) (je_bf (b_max rfl) (f_max X G c) (jp_cons je_int (jp_cons (je_bf (b_min rfl) (f_min X G c) (jp_cons (je_len rfl (f_len X G c) (jb_v 0)) (jp_cons je_int jp_nil))) jp_nil)))) (jg_n sc_law.nd (i := 1))
    (js_one (js_if (jt_not (jt_val (JR.toE (jr_callT tk_cx ((ok_l_case X G c).cal hr) (g_l_case X G c) (ok_l_case (P := P) (w := w) (base := base) X G c).kp (JR.toN (jr_call tk_cx ((ok_l_jar X G c).cal hr) (g_l_jar X G c) (ok_l_jar (P := P) (w := w) (base := base) X G c).kp (ja_cons (jx_e (je_v 0)) (ja_cons (jx_e (je_v 1)) ja_nil))))))))
    (js_one (js_ret je_bl)) js_nil)))
    (js_one (js_ret je_bl)))
theorem ok_law : Dn P w (sgOf K) mg base 7 (He.ga K "law") [] F_law := dn_all (d := d_law) (c.def_ 12) rfl sc_law rfl (fun _ _ _ _ _ _ us hl => match us, hl with | [_], _ => rfl) (body_law X G c)
end
end Y

namespace Y
open PySem PySem.Spec L2 PyProof.Rows
theorem fmod_ofNat (a b : Nat) : Int.fmod (a : Int) (b : Int) = ((a % b : Nat) : Int) := by
  rw [Int.fmod_eq_emod_of_nonneg _ (by omega)]
  rfl
theorem gcd_step (a b : Nat) (hb : 0 < b) : Nat.gcd b (a % b) = Nat.gcd a b := by
  rw [Nat.gcd_comm b, ← Nat.gcd_rec, Nat.gcd_comm]
/-- a loop that is Euclid's -/
theorem euclid {t : SM Bool} {w : SS} (ht : ∀ a b : Nat, t [.pu (.int a), .pu (.int b)] = some (.ok (decide (0 < b)), [.pu (.int a), .pu (.int b)]))
    (hw : ∀ a b : Nat, 0 < b → w [.pu (.int a), .pu (.int b)] = some (.nx, [.pu (.int b), .pu (.int ((a % b : Nat) : Int))])) : ∀ (n a b : Nat), b < n → whileL t w n [.pu (.int a), .pu (.int b)] = some (.nx, [.pu (.int (Nat.gcd a b)), .pu (.int 0)])
  | 0, a, b, h => by omega
  | n + 1, a, b, h => by
    rw [while_s, ht]
    by_cases hb : b = 0
    · subst hb
      simp
    · have hp := Nat.pos_of_ne_zero hb
      have ih := euclid ht hw n b (a % b) (by have := Nat.mod_lt a hp; omega)
      rw [gcd_step a b hp] at ih
      simp only [eK_ok, decide_eq_true hp, ifM_t]
      rw [hw a b hp, loopK_nx, ih]
theorem abs_nat (a : Int) : (if a < 0 then -a else a) = (a.natAbs : Int) := by
  split <;> omega
theorem q_lgcd (a b : Int) : F_l_gcd [.pu (.int a), .pu (.int b)] = some (.ok (.pu (.int (Int.gcd a b))), [.pu (.int a), .pu (.int b)]) := by
  have h := euclid (t := t_l_gcd_1) (w := w_l_gcd_1) (fun a b => by simp [t_l_gcd_1]) fun a b h => by simp [w_l_gcd_1, Nat.ne_of_gt h, fmod_ofNat]
  simp [F_l_gcd, b_l_gcd, abs_nat, n_l_gcd_1, fuI, h, Int.gcd]
theorem q_cgcd (a b : Int) : F_common_divisor [.pu (.int a), .pu (.int b)] = some (.ok (.pu (.int (Int.gcd a b))), [.pu (.int a), .pu (.int b)]) := by
  have h := euclid (t := t_common_divisor_1) (w := w_common_divisor_1) (fun a b => by simp [t_common_divisor_1]) fun a b h => by simp [w_common_divisor_1, Nat.ne_of_gt h, fmod_ofNat]
  simp [F_common_divisor, b_common_divisor, abs_nat, n_common_divisor_1, fuI, h, Int.gcd]
theorem q_isint (a : Int) : F_is_integer [.pu (.int a)] = some (.ok (.pu (.bl true)), [.pu (.int a)]) := by
  simp [F_is_integer, b_is_integer, bIsi, tgOf, isiG, isiT, bnames]
theorem q_whole (a : Int) : F_l_whole [.pu (.int a)] = some (.ok (.pu (.bl true)), [.pu (.int a)]) := by
  simp [F_l_whole, b_l_whole, bIsi, tgOf, isiG, isiT, bnames]
@[simp] theorem ixN_0 (n : Nat) : L2.ixN (n + 1) 0 = some 0 := by
  simp [L2.ixN]
@[simp] theorem atI_0 (x : PV) (xs : List PV) : L2.atI (x :: xs) 0 = some x := by
  simp [L2.atI]
theorem q_pick {j m : Int} (h : DivB m) : F_l_pick [.io (.lst [.int j]), .pu (.int m)] = some (.ok (.pu (.int (j.fmod m))), [.io (.lst [.int (j.fdiv m)]), .pu (.int m)]) := by
  simp [F_l_pick, b_l_pick, oFdiv_i h, h.1]
theorem atI_n (xs : List PV) (n : Nat) (h : n < xs.length) : L2.atI xs (n : Int) = xs[n]? := by
  unfold L2.atI L2.ixN
  simp [h]
/-- what Amount keeps -/
def sgn (b : Int) (g : Int) : Int := if b < 0 then -g else g
def amt (t b : Int) : PV := .obj .Amount [.int (t.fdiv (sgn b (Int.gcd t b))), .int (b.fdiv (sgn b (Int.gcd t b)))]
theorem q_init {t b : Int} (hb : b ≠ 0) (hd : DivB (sgn b (Int.gcd t b))) :
    F_Amount_init [.io (.obj .Amount []), .pu (.int t), .pu (.int b)] = some (.ok (.pu .non), [.io (amt t b), .pu (.int t), .pu (.int b)]) := by
  by_cases h : b < 0
  · have e : sgn b (Int.gcd t b) = -(Int.gcd t b : Int) := by simp [sgn, h]
    rw [e] at hd
    simp [F_Amount_init, b_Amount_init, q_isint, q_cgcd, hb, h, oFdiv_i hd, amt, e]
  · have e : sgn b (Int.gcd t b) = (Int.gcd t b : Int) := by simp [sgn, h]
    rw [e] at hd
    simp [F_Amount_init, b_Amount_init, q_isint, q_cgcd, hb, h, oFdiv_i hd, amt, e]
theorem q_top (x y : PV) : F_Amount_top [.pu (.obj .Amount [x, y])] = some (.ok (.pu x), [.pu (.obj .Amount [x, y])]) := by
  simp [F_Amount_top, b_Amount_top]
theorem q_bottom (x y : PV) : F_Amount_bottom [.pu (.obj .Amount [x, y])] = some (.ok (.pu y), [.pu (.obj .Amount [x, y])]) := by
  simp [F_Amount_bottom, b_Amount_bottom]
theorem q_is {t b : Int} (hd : DivB (sgn b (Int.gcd t b))) : F_l_is [.pu (amt t b), .pu (.int t), .pu (.int b)] = some (.ok (.pu (.bl true)), [.pu (amt t b), .pu (.int t), .pu (.int b)]) := by
  by_cases h : b < 0
  · have e : sgn b (Int.gcd t b) = -(Int.gcd t b : Int) := by simp [sgn, h]
    rw [e] at hd
    simp [F_l_is, b_l_is, q_lgcd, h, oFdiv_i hd, amt, e, bIsi, tgOf, isiG, isiT, isiC, bnames, q_top, q_bottom, q_whole]
  · have e : sgn b (Int.gcd t b) = (Int.gcd t b : Int) := by simp [sgn, h]
    rw [e] at hd
    simp [F_l_is, b_l_is, q_lgcd, h, oFdiv_i hd, amt, e, bIsi, tgOf, isiG, isiT, isiC, bnames, q_top, q_bottom, q_whole]
theorem divB_s {m : Int} (h0 : 0 < m) (h1 : m < 2 ^ 60) : DivB m := DivB.of_lt (k := 60) (by omega) (by omega) (by omega) (by omega)
theorem pick (j : Int) {m : Int} (h0 : 0 < m) (h1 : m < 2 ^ 60) : ∃ r j' : Int, 0 ≤ r ∧ r < m ∧ F_l_pick [.io (.lst [.int j]), .pu (.int m)] = some (.ok (.pu (.int r)), [.io (.lst [.int j']), .pu (.int m)]) := by
  refine ⟨_, _, ?_, ?_, q_pick (divB_s h0 h1)⟩
  · exact Int.fmod_nonneg_of_pos _ h0
  · exact Int.fmod_lt_of_pos _ h0
theorem oMul_l {a b : Int} (h0 : -(2 ^ 63) < a) (h1 : a < 2 ^ 63) : oMul (.int a) (.int b) = some (.int (a * b)) := oMul_i (.inl (by omega))
theorem oMul_r {a b : Int} (h0 : -(2 ^ 63) < b) (h1 : b < 2 ^ 63) : oMul (.int a) (.int b) = some (.int (a * b)) := oMul_i (.inr (.inl (by omega)))
theorem oFdiv_s {a b : Int} (h0 : 0 < b) (h1 : b < 2 ^ 60) : oFdiv (.int a) (.int b) = some (.int (a.fdiv b)) := oFdiv_i (divB_s h0 h1)
theorem p9 : oPow (.int 10) (.int 9) = some (.int 1000000000) := by
  have h : CPow 10 9 := ⟨by omega, by omega, by omega⟩
  simp [oPow, oI, h]
theorem p18 : oPow (.int 10) (.int 18) = some (.int 1000000000000000000) := by
  have h : CPow 10 18 := ⟨by omega, by omega, by omega⟩
  simp [oPow, oI, h]
/-- the parts that the law draws -/
def Small (t b : Int) : Prop := b ≠ 0 ∧ b.natAbs < 2 ^ 60 ∧ t.natAbs < 2 ^ 60
theorem abs_mul {a b : Int} {A B : Nat} (ha : a.natAbs ≤ A) (hb : b.natAbs ≤ B) : (a * b).natAbs ≤ A * B := by
  rw [Int.natAbs_mul]
  exact Nat.mul_le_mul ha hb
theorem parts (j : Int) : ∃ t b j' : Int, Small t b ∧ F_l_parts [.io (.lst [.int j])] = some (.ok (.pu (.tup [.int t, .int b])), [.io (.lst [.int j'])]) := by
  obtain ⟨s, j1, hs0, hs1, e1⟩ := pick j (m := 4) (by omega) (by omega)
  obtain ⟨g, j2, hg0, hg1, e2⟩ := pick j1 (m := 2) (by omega) (by omega)
  have m1 : oMul (.int 2) (.int g) = some (.int (2 * g)) := oMul_l (by omega) (by omega)
  have hsg : (1 - 2 * g) = 1 ∨ (1 - 2 * g) = -1 := by omega
  by_cases h3 : s = 3
  · subst h3
    obtain ⟨r3, j3, h30, h31, e3⟩ := pick j2 (m := 10000) (by omega) (by omega)
    obtain ⟨r4, j4, h40, h41, e4⟩ := pick j3 (m := 200001) (by omega) (by omega)
    have m2 : oMul (.int (1 - 2 * g)) (.int (1 + r3)) = some (.int ((1 - 2 * g) * (1 + r3))) := oMul_l (by omega) (by omega)
    have m3 : oMul (.int ((1 - 2 * g) * (1 + r3))) (.int (r4 - 100000)) = some (.int ((1 - 2 * g) * (1 + r3) * (r4 - 100000))) := oMul_r (by omega) (by omega)
    refine ⟨_, _, j4, ?_, by simp [F_l_parts, b_l_parts, e1, e2, e3, e4, m1, m2, m3]; exact ⟨rfl, rfl⟩⟩
    have hb : ((1 - 2 * g) * (1 + r3)).natAbs ≤ 10000 := by
      rcases hsg with q | q <;> rw [q] <;> omega
    refine ⟨?_, by omega, ?_⟩
    · rcases hsg with q | q <;> rw [q] <;> omega
    · have := abs_mul (b := r4 - 100000) (B := 100000) hb (by omega)
      omega
  · have key : ∀ f : Int, 1 ≤ f → f ≤ 30000 → L2.atI [PV.int 1, PV.int 12, PV.int 30000] s = some (.int f) → ∃ t b j' : Int, Small t b ∧ F_l_parts [.io (.lst [.int j])] = some (.ok (.pu (.tup [.int t, .int b])), [.io (.lst [.int j'])]) := by
      intro m hm0 hm1 hm
      obtain ⟨r3, j3, h30, h31, e3⟩ := pick j2 (m := m) (by omega) (by omega)
      have hf1 : 1 ≤ 1 + r3 := by omega
      have hf2 : 1 + r3 ≤ 30000 := by omega
      generalize hf : 1 + r3 = f at hf1 hf2
      have d1 : oFdiv (.int 1000000000) (.int f) = some (.int ((1000000000 : Int).fdiv f)) := oFdiv_s (by omega) (by omega)
      have hL1 : 1 ≤ (1000000000 : Int).fdiv f := by
        rw [Int.fdiv_eq_ediv_of_nonneg _ (by omega)]
        exact Int.le_ediv_of_mul_le (by omega) (by omega)
      have hL2 : (1000000000 : Int).fdiv f ≤ 1000000000 := by
        rw [Int.fdiv_eq_ediv_of_nonneg _ (by omega)]
        exact Int.ediv_le_self _ (by omega)
      generalize hL : (1000000000 : Int).fdiv f = L at d1 hL1 hL2
      have m2 : oMul (.int 2) (.int L) = some (.int (2 * L)) := oMul_l (by omega) (by omega)
      obtain ⟨r4, j4, h40, h41, e4⟩ := pick j3 (m := 2 * L + 1) (by omega) (by omega)
      obtain ⟨r5, j5, h50, h51, e5⟩ := pick j4 (m := 8) (by omega) (by omega)
      have fin : ∀ (top jj : Int), top.natAbs ≤ 1000000000 → ∃ r jj', 0 ≤ r ∧ r < L ∧ F_l_pick [.io (.lst [.int jj]), .pu (.int L)] = some (.ok (.pu (.int r)), [.io (.lst [.int jj']), .pu (.int L)]) ∧
          oMul (.int top) (.int f) = some (.int (top * f)) ∧ oMul (.int (1 - 2 * g)) (.int f) = some (.int ((1 - 2 * g) * f)) ∧ oMul (.int ((1 - 2 * g) * f)) (.int (1 + r)) = some (.int ((1 - 2 * g) * f * (1 + r))) ∧ Small (top * f) ((1 - 2 * g) * f * (1 + r)) := by
        intro top jj ht
        obtain ⟨r, jj', hr0, hr1, e⟩ := pick jj (m := L) (by omega) (by omega)
        refine ⟨r, jj', hr0, hr1, e, oMul_r (by omega) (by omega), oMul_l (by omega) (by omega), oMul_r (by omega) (by omega), ?_, ?_, ?_⟩
        · have h1 : (1 - 2 * g) * f ≠ 0 := by rcases hsg with q | q <;> rw [q] <;> omega
          exact Int.mul_ne_zero h1 (by omega)
        · have h1 : ((1 - 2 * g) * f).natAbs ≤ 30000 := by rcases hsg with q | q <;> rw [q] <;> omega
          have := abs_mul (b := 1 + r) (B := 1000000000) h1 (by omega)
          omega
        · have := abs_mul (b := f) (B := 30000) ht (by omega)
          omega
      by_cases h5 : r5 = 0
      · subst h5
        obtain ⟨r6, j6, h60, h61, e6⟩ := pick j5 (m := 4) (by omega) (by omega)
        have hx : ∃ top : Int, top.natAbs ≤ 1000000000 ∧ L2.atI [PV.int 0, PV.int 1, PV.int (-1), PV.int L] r6 = some (.int top) := by
          have : r6 = 0 ∨ r6 = 1 ∨ r6 = 2 ∨ r6 = 3 := by omega
          rcases this with q | q | q | q <;> subst q
          · exact ⟨0, by omega, by simp [L2.atI, L2.ixN]⟩
          · exact ⟨1, by omega, by simp [L2.atI, L2.ixN]⟩
          · exact ⟨-1, by omega, by simp [L2.atI, L2.ixN]⟩
          · exact ⟨L, by omega, by simp [L2.atI, L2.ixN]⟩
        obtain ⟨top, ht, hx⟩ := hx
        obtain ⟨r, jj', hr0, hr1, e7, n1, n2, n3, sm⟩ := fin top j6 ht
        exact ⟨_, _, jj', sm, by simp [F_l_parts, b_l_parts, e1, e2, e3, e4, e5, e6, e7, m1, m2, d1, n1, n2, n3, h3, hm, hx, p9, hf]⟩
      · obtain ⟨r, jj', hr0, hr1, e7, n1, n2, n3, sm⟩ := fin (r4 - L) j5 (by omega)
        exact ⟨_, _, jj', sm, by simp [F_l_parts, b_l_parts, e1, e2, e3, e4, e5, e7, m1, m2, d1, n1, n2, n3, h3, h5, hm, p9, hf]⟩
    have : s = 0 ∨ s = 1 ∨ s = 2 := by omega
    rcases this with q | q | q <;> subst q
    · exact key 1 (by omega) (by omega) (by simp [L2.atI, L2.ixN])
    · exact key 12 (by omega) (by omega) (by simp [L2.atI, L2.ixN])
    · exact key 30000 (by omega) (by omega) (by simp [L2.atI, L2.ixN])
end Y

namespace Y
open PySem PySem.Spec L2 PyProof.Rows
theorem Small.div {t b : Int} (h : Small t b) : DivB (sgn b (Int.gcd t b)) := by
  obtain ⟨h1, h2, h3⟩ := h
  have hg : Int.gcd t b ≤ b.natAbs := Int.gcd_le_natAbs_right _ h1
  have hp : 0 < Int.gcd t b := Int.gcd_pos_of_ne_zero_right _ h1
  refine DivB.of_lt (k := 60) ?_ (by omega) (by omega) ?_
  · unfold sgn; split <;> omega
  · unfold sgn; split <;> omega
theorem q_case (j : Int) : ∃ j' : Int, F_l_case [.io (.lst [.int j])] = some (.ok (.pu (.bl true)), [.io (.lst [.int j'])]) := by
  obtain ⟨t1, b1, j1, s1, e1⟩ := parts j
  obtain ⟨t2, b2, j2, s2, e2⟩ := parts j1
  have s3 : Small t1 1 := ⟨by omega, by omega, s1.2.2⟩
  exact ⟨j2, by simp [F_l_case, b_l_case, e1, e2, q_init s1.1 s1.div, q_init s2.1 s2.div, q_init s3.1 s3.div, q_is s1.div, q_is s2.div, q_is s3.div]⟩
/-- the drawing's loop -/
theorem jar_loop (xs : PV) (at_ : Int) (ha : 0 ≤ at_) (ha2 : at_ < 100) (cell : Int) : ∀ (ks : List Int) (part rest : Int), (∀ k ∈ ks, 0 ≤ k ∧ k < 40) → -(2 ^ 33) < part → part < 2 ^ 33 →
    ∃ part' rest' : Int, forL (gN 5) w_l_jar_1 [5] (ks.map PV.int) [.pu xs, .pu (.int at_), .pu (.int cell), .pu (.int part), .pu (.int rest), .un] = some (.nx, [.pu xs, .pu (.int at_), .pu (.int cell), .pu (.int part'), .pu (.int rest'), .un])
  | [], part, rest, _, _, _ => ⟨part, rest, rfl⟩
  | k :: ks, part, rest, hk, h1, h2 => by
    have hk0 := hk k (List.mem_cons_self ..)
    have m1 : oMul (.int part) (.int part) = some (.int (part * part)) := oMul_l (by omega) (by omega)
    have m2 : oMul (.int (part * part)) (.int 3) = some (.int (part * part * 3)) := oMul_r (by omega) (by omega)
    have m3 : oMul (.int part) (.int (k + 2)) = some (.int (part * (k + 2))) := oMul_l (by omega) (by omega)
    have m4 : oMul (.int 19) (.int at_) = some (.int (19 * at_)) := oMul_l (by omega) (by omega)
    have m5 : oMul (.int rest) (.int 1000033) = some (.int (rest * 1000033)) := oMul_r (by omega) (by omega)
    have d1 : ∀ a : Int, oFdiv (.int a) (.int 5) = some (.int (a.fdiv 5)) := fun a => oFdiv_s (by omega) (by omega)
    have b1 := Int.fmod_nonneg_of_pos (part * part * 3 + part * (k + 2) + 19 * at_ + 71) (b := 2147483587) (by omega)
    have b2 := Int.fmod_lt_of_pos (part * part * 3 + part * (k + 2) + 19 * at_ + 71) (b := 2147483587) (by omega)
    obtain ⟨p', r', ih⟩ := jar_loop xs at_ ha ha2 cell ks ((part * part * 3 + part * (k + 2) + 19 * at_ + 71).fmod 2147483587) (rest * 1000033 + (((part * part * 3 + part * (k + 2) + 19 * at_ + 71).fmod 2147483587).fdiv 5).fmod 1000033) (fun k h => hk k (List.mem_cons_of_mem _ h)) (by omega) (by omega)
    refine ⟨p', r', ?_⟩
    rw [List.map_cons, for_s]
    have e : w_l_jar_1 [.pu xs, .pu (.int at_), .pu (.int cell), .pu (.int part), .pu (.int rest), .pu (.int k)] = some (.nx, [.pu xs, .pu (.int at_), .pu (.int cell), .pu (.int ((part * part * 3 + part * (k + 2) + 19 * at_ + 71).fmod 2147483587)), .pu (.int (rest * 1000033 + (((part * part * 3 + part * (k + 2) + 19 * at_ + 71).fmod 2147483587).fdiv 5).fmod 1000033)), .pu (.int k)]) := by
      simp [w_l_jar_1, m1, m2, m3, m4, m5, d1]
    simp [e, ih]
theorem rng_ints (lo : Int) (n : Nat) : rngP lo n = ((List.range n).map fun i : Nat => lo + (i : Int)).map PV.int := by
  unfold rngP
  rw [List.map_map]
  rfl
theorem q_jar (ns : List Int) (a : Nat) (ha : a < 100) : ∃ j : Int, F_l_jar [.pu (.lst (ns.map .int)), .pu (.int a)] = some (.ok (.ow (.lst [.int j])), [.pu (.lst (ns.map .int)), .pu (.int a)]) := by
  have m1 : oMul (.int 101) (.int a) = some (.int (101 * a)) := oMul_l (by omega) (by omega)
  have r40 : RngB 40 := RngB.of (by omega) (by omega)
  have draw : ∀ cell : Int, cell < 1000000000000000000 → ∃ part' rest' : Int, forL (gN 5) w_l_jar_1 [5] (rngP 0 40) [.pu (.lst (ns.map .int)), .pu (.int a), .pu (.int cell), .pu (.int (cell.fmod 2147483647 + 101 * a + 7)), .pu (.int 0), .un] = some (.nx, [.pu (.lst (ns.map .int)), .pu (.int a), .pu (.int cell), .pu (.int part'), .pu (.int rest'), .un]) := by
    intro cell hc
    have b1 := Int.fmod_nonneg_of_pos cell (b := 2147483647) (by omega)
    have b2 := Int.fmod_lt_of_pos cell (b := 2147483647) (by omega)
    rw [rng_ints]
    refine jar_loop _ a (by omega) (by omega) cell _ _ _ ?_ (by omega) (by omega)
    intro k hk
    simp at hk
    omega
  by_cases h : a < ns.length
  · have hi : L2.atI (ns.map PV.int) (a : Int) = some (.int ns[a]) := by
      rw [atI_n _ _ (by simpa using h)]
      simp [h]
    by_cases hb : ns[a] < 1000000000000000000
    · obtain ⟨p, r, e⟩ := draw ns[a] hb
      have hb' : ¬ (1000000000000000000 ≤ ns[a]) := by omega
      exact ⟨r, by simp [F_l_jar, b_l_jar, h, hi, hb', p18, m1, r40, e]⟩
    · have hb' : 1000000000000000000 ≤ ns[a] := by omega
      exact ⟨_, by simp [F_l_jar, b_l_jar, h, hi, hb', p18]; rfl⟩
  · obtain ⟨p, r, e⟩ := draw 0 (by omega)
    have e' := e
    exact ⟨r, by simp [F_l_jar, b_l_jar, h, p18, m1, r40]; simp at e'; simp [e']⟩
theorem law_loop (ns : List Int) : ∀ ks : List Nat, (∀ k ∈ ks, k < 100) → forL (gN 1) w_law_1 [1] (ks.map fun k : Nat => PV.int (k : Int)) [.pu (.lst (ns.map .int)), .un] = some (.nx, [.pu (.lst (ns.map .int)), .un])
  | [], _ => rfl
  | k :: ks, hk => by
    have ih := law_loop ns ks fun k h => hk k (List.mem_cons_of_mem _ h)
    obtain ⟨j, e1⟩ := q_jar ns k (hk k (List.mem_cons_self ..))
    obtain ⟨j', e2⟩ := q_case j
    rw [List.map_cons, for_s]
    have e : w_law_1 [.pu (.lst (ns.map .int)), .pu (.int (k : Int))] = some (.nx, [.pu (.lst (ns.map .int)), .pu (.int (k : Int))]) := by
      simp [w_law_1, e1, e2]
    simp [e, ih]
theorem law_n (n : Nat) : ∃ m : Nat, m < 100 ∧ (if (1 : Int) < (if (20 : Int) < (n : Int) then 20 else (n : Int)) then (if (20 : Int) < (n : Int) then 20 else (n : Int)) else 1) = (m : Int) := by
  by_cases h1 : (20 : Int) < (n : Int)
  · exact ⟨20, by omega, by simp [h1]⟩
  · by_cases h2 : (1 : Int) < (n : Int)
    · exact ⟨n, by omega, by simp [h1, h2]⟩
    · exact ⟨1, by omega, by simp [h1, h2]⟩
theorem law_key (ns : List Int) (n : Nat) (hn : n < 100) : forL (gN 1) w_law_1 [1] (rngP 0 n) [.pu (.lst (ns.map .int)), .un] = some (.nx, [.pu (.lst (ns.map .int)), .un]) := by
  have := law_loop ns (List.range n) (fun k hk => by simp at hk; omega)
  unfold rngP
  simpa using this
theorem top_ (f : SE) (ns : List Int) (ρ : Rh) (hf : f ρ = some (.ok (.int (ns.length : Int)), ρ)) : ∃ m : Nat, m < 100 ∧ eBf bMax (pCons (eC (.int 1)) (pCons (eBf bMin (pCons f (pCons (eC (.int 20)) pNil))) pNil)) ρ = some (.ok (.int (m : Int)), ρ) := by
  obtain ⟨m, hm, e⟩ := law_n ns.length
  exact ⟨m, hm, by simp [hf]; exact e⟩
theorem tru (ns : List Int) (h : ns.length ≤ 63) : Tru F_law ns := by
  refine ⟨[.pu (.lst (ns.map .int))], ?_⟩
  obtain ⟨n, hn, en⟩ := top_ (eLen (eB 0)) ns [.pu (.lst (ns.map .int)), .un] (by simp)
  have k := law_key ns n hn
  have n1 : RngB (n : Int) := RngB.of (by omega) (by omega)
  have e2 : iR1 (pCons (eBf bMax (pCons (eC (.int 1)) (pCons (eBf bMin (pCons (eLen (eB 0)) (pCons (eC (.int 20)) pNil))) pNil))) pNil) [.pu (.lst (ns.map .int)), .un] = some (.ok (rngP 0 n), [.pu (.lst (ns.map .int)), .un]) := by
    rw [iR1_ap, pCons_ap, en]
    simp [n1]
  rw [F_law, fnOf_ap (m := 1) rfl, b_law]
  show fnK _ (sSeq _ _ [.pu (.lst (ns.map .int)), .un]) = _
  rw [sSeq_ap, sFor_ap, e2]
  simp [k]
end Y

namespace Y
open PySem PySem.Spec L2 PyProof.Rows
set_option maxHeartbeats 0

/-! ### the head -/
def nms : List Str := (["SaleError", "InvalidAmount", "is_integer", "common_divisor", "Amount", "as_amount", "_law_jar", "_law_pick", "_law_whole", "_law_gcd", "_law_is", "_law_parts", "_law_case"] : List Str)
abbrev hdR : PySem.W.OpenRow := PySem.W.OpenLaw.row PySem.Challenge.rw_yesorwait_k01_lowest_terms
abbrev hdH : PySem.W.Hook := hookY 6 fb fn
def hdO (s : PySem.W.SharedT) : AlY := obsYG 6 fb fn (HandSHeadRun.getT s)
theorem hdO_eq (s : PySem.W.SharedT) : hdO s = hdH.obs s.abs := obsYG_eq (HandSHeadRun.getT_eq s)
theorem hdRun (w : World) : HandSHeadRun.RunEq hdR (PySem.W.view hdR.prog [16]) hdH hdO 3000 nms w := by
  intro os
  kernel_rfl
theorem hdFacts {P : Program} {w : World} {K : PySem.W.Frag} {h : Heap} {mg : Str → Option Value} {f : Addr} (X : K.In h) (G : h.Ns mainGlobals mg) (hfa : mg ("law" : Str) = some (.ref f)) (c : SaysY fb fn K) :
    ∃ fd : FuncData, (∀ (s : Shared) (u : Value), BindsTo s fd ⟨[u], []⟩ [("_law_script", u)]) ∧ ∀ base : Heap, FnOk P w K mg base (L2.CX P w) 7 f fd ["_law_script"] (spOf (sgOf K) F_law) := by
  obtain ⟨fd, Fd⟩ := c.def_ 12 (d := d_law) rfl
  have e := hfa.symm.trans (He.glo_ok X G (c.fact 27 (f := kGlo "law") rfl))
  cases e
  have b := FunD.bindsA (ps := ["_law_script"]) Fd fun _ _ _ _ _ _ us hl => match us, hl with | [_], _ => rfl
  exact ⟨fd, fun s u => b s [u] rfl, fun base => fn_sem (S := sgOf K) Fd sc_law rfl (body_law X G c)⟩
end Y

open PySem PySem.W PySem.Calls PyProof.Rows
set_option maxHeartbeats 0
theorem PySem.Challenge.cw_yesorwait_k01_lowest_terms_holds : PySem.Challenge.rw_yesorwait_k01_lowest_terms.Holds := by
  w_on; o_law
  refine HandSHeadRun.head_any (r := OpenLaw.row PySem.Challenge.rw_yesorwait_k01_lowest_terms) (q := view (OpenLaw.row PySem.Challenge.rw_yesorwait_k01_lowest_terms).prog [16]) (H := Y.hdH) (ob := Y.hdO) (M := 3000) (loose := Y.nms) (d := HandSHeadRun.topDef (OpenLaw.row PySem.Challenge.rw_yesorwait_k01_lowest_terms).prog 16) (kwd := []) Y.hdO_eq
    (by kernel_rfl) (fun s => by kernel_rfl) Y.hdRun (by kernel_rfl) (by kernel_rfl) (by kernel_rfl) (by rfl) (by first | assumption | decide +kernel) (by decide +kernel) ⟨rfl, rfl, rfl, rfl, rfl, by decide +kernel⟩ ?hw ?hc
  case hw => w_witness2
  case hc =>
    refine Y.walkY (l := PySem.Challenge.rw_yesorwait_k01_lowest_terms) (n := 63) (k := 7) (x := "_law_script") (g := Y.F_law) rfl (by decide) (by kernel_rfl) ⟨rfl, by decide, by decide⟩ (fun ns hl _ => Y.tru ns hl) ?F
    intro w mg fa h Y G hmg0
    obtain ⟨K, KX, c⟩ := Y
    have hmg : mg ("law" : PySem.Str) = some (.ref fa) := by
      have e : (HandSHeadRun.topDef (OpenLaw.row PySem.Challenge.rw_yesorwait_k01_lowest_terms).prog 16).name = ("law" : PySem.Str) := by kernel_rfl
      rw [← e]
      exact hmg0
    obtain ⟨fd, hb, hF⟩ := Y.hdFacts (P := (PySem.Challenge.rw_yesorwait_k01_lowest_terms).prog) (w := w) KX G hmg c
    exact ⟨K, fd, KX, hb, fun base _ _ => hF base⟩
