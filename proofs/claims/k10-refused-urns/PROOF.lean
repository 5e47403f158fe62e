import PyProof.Rows.All
import Wide.All
import OpenK.AllK
import Wide.FinOn
import HandS.ForMost
import HandS.ForExc
import HandS.Wide
import KE.KDictCopyH
import KE.KTupTabMore
import HandS.CallSlots
import HandS.Property
import HandS.Defaults
import HandS.IsInst
import HandS.SortInts
import HandS.Comp
import HandS.HeadHook1
import HandS.HeadHook2
import HandS.HeadEnd
import HandS.Head0
import HandS.Head1
import HandS.Head2
import HandS.EndBits
import KE.KOpsOwn
import HandS.Style
import HandS.Deep
import HandS.SetFor
import HandS.SortKw
import HandS.DictComp
import HandS.Conv
import HandS.IterVal
import HandS.OwnIter
import KE.KOwnIter
import OpenK.KMeth
import HandS.TupLe
import OpenK.KOps
import HandS.Strs
import HandS.Flow
import PyProof.StrOps2
import HandS.Exc
import HandS.ExcIs
import HandS.Text
import HandS.TryMany
import HandS.ExcValue
import PySem.Challenge.RW_yesorwait_k10_refused_urns
set_option Elab.async false
set_option linter.all false
set_option maxRecDepth 100000
set_option maxHeartbeats 4000000
set_option autoImplicit false
set_option exponentiation.threshold 4000

namespace Y
open PySem PySem.Spec L2

/-- the classes of the package -/
inductive Cid where
  | SaleError | InvalidAmount | InvalidUrn | InvalidRule | InvalidFact | InvalidShare | NotFit | TooMany | InvalidOffer | SaleOver | NothingToUndo | InvalidText | InvalidCommand | NotReady
  | Amount | Urn | Rule | Threshold | Falling | After | Balance | Fact | Sale | Console | Other
  deriving DecidableEq

/-- a value without addresses -/
inductive PV where
  | non | bl (b : Bool) | int (i : Int) | str (x : Str) | ty (n : String) | cls (c : Cid)
  | tup (xs : List PV) | lst (xs : List PV) | dct (ks : List Key) (xs : List PV) | dcn (ks : List (Option Int)) (xs : List PV) | obj (c : Cid) (xs : List PV) | xad (a : Addr)
  | dtt (ks : List (List Key)) (xs : List PV) | err (c : Cid)

/-- the attributes in the order in which __init__ stores them -/
def flds : Cid → List Str
  | .Amount => ["above", "below"]
  | .Urn => ["rows", "weights", "whole"]
  | .Threshold => ["own_limit"]
  | .Falling => ["own_limits"]
  | .After => ["own_wait"]
  | .Balance => ["own_limit", "own_frees", "own_excesses", "own_none", "own_most"]
  | .Fact => ["points", "least", "most"]
  | .Sale => ["line", "policy", "came", "choice"]
  | .Console => ["urn_list", "plan", "live"]
  | _ => []

/-- where things stand: the written part, the classes -/
structure Sg where
  K : PySem.W.Frag
  ca : Cid → Addr

def nkL : Option Int → Leaf
  | none => .none
  | some i => .num i
def nkIs : Option Int → Value → Bool
  | none, .none => true
  | some i, .int j _ => decide (j = i)
  | _, _ => false
def nkHash : Option Int → Int
  | none => reduceHash 0xFCA86420
  | some i => hashInt i
theorem nkIs_none {v : Value} (h : nkIs none v = true) : v = .none := by
  cases v <;> first | rfl | exact absurd h Bool.false_ne_true
theorem nkIs_some {i : Int} {v : Value} (h : nkIs (some i) v = true) : ∃ t, v = .int i t := by
  cases v with
  | int j t =>
    have e : j = i := of_decide_eq_true h
    exact ⟨t, by rw [e]⟩
  | _ => exact absurd h Bool.false_ne_true
theorem nkIs_leaf {k : Option Int} {v : Value} (h : nkIs k v = true) : Leaf.isOf (nkL k) v = true := by
  cases k with
  | none => rw [nkIs_none h]; rfl
  | some i =>
    obtain ⟨t, rfl⟩ := nkIs_some h
    exact decide_eq_true rfl
theorem nkL_inj {a b : Option Int} (h : nkL a = nkL b) : a = b := by
  cases a <;> cases b <;> cases h <;> rfl
def nkKind (prog : Program) (w : World) : KeyKind prog w (Option Int) where
  is := nkIs
  hash := nkHash
  inj := fun v a b ha hb => by
    cases a with
    | none => rw [nkIs_none ha] at hb; cases b <;> first | rfl | exact absurd hb Bool.false_ne_true
    | some i =>
      obtain ⟨t, rfl⟩ := nkIs_some ha
      cases b with
      | none => exact absurd hb Bool.false_ne_true
      | some j => rw [show i = j from of_decide_eq_true hb]
  byValue := fun _ _ h => Leaf.byValue (nkIs_leaf h)
  pyHash := fun {A E s k v Q} hv h => by
    refine pyHash_leaf (k := nkL k) (nkIs_leaf hv) ?_
    cases k <;> exact h
  eqBool := fun {A E s a b u v Q} hu hv h => by
    have e : decide (a = b) = decide (nkL a = nkL b) := by
      by_cases q : a = b
      · rw [decide_eq_true q, decide_eq_true (congrArg nkL q)]
      · rw [decide_eq_false q, decide_eq_false fun z => q (nkL_inj z)]
    rw [e] at h
    exact eqAt_leaf (nkIs_leaf hu) (nkIs_leaf hv) _ _ _ _ h
  «strs» := fun k x t v h => by cases k <;> exact absurd h Bool.false_ne_true
/-- at a stands a dict whose keys are ints and None -/
def DnAt (a : Addr) (kvs : List (Option Int × V)) (h : Heap) : Prop := kvs.length ≤ sizeLine ∧ (a == sysModules) = false ∧ ∃ vs : List (Option Int × Value), KV kvs vs ∧ ∃ (P : Program) (w : World), h.DictOf (nkKind P w) a vs
def dnO (a : Addr) (kvs : List (Option Int × V)) : HO := .ext (DnAt a kvs)
/-- what is known of an error's object -/
def ErrAt (C : Addr) (a : Addr) (h : Heap) : Prop := ∃ (oe : Obj) (vs : Array Value), h.get? a = some oe ∧ oe.cls = .ref C ∧ oe.dict = none ∧ oe.data = .fields vs

mutual
/-- v is x, by the frozen heap F -/
def Rep (S : Sg) (F : Hp) : PV → V → Prop
  | .non, v => v = .non
  | .bl b, v => v = .bl b
  | .int i, v => v = .int i
  | .str x, v => v = .str x
  | .ty n, v => v = .ty n
  | .cls c, v => v = .ref (S.ca c)
  | .tup xs, v => ∃ a vs, v = .ref a ∧ SqT S.K F a vs ∧ Reps S F xs vs
  | .lst xs, v => ∃ a vs, v = .ref a ∧ SqL S.K F a vs ∧ Reps S F xs vs
  | .dct ks xs, v => ∃ a od vs, v = .ref a ∧ F a = some (.frz od (.dK (ks.zip vs))) ∧ ks.length = vs.length ∧ Reps S F xs vs
  | .dcn ks xs, v => ∃ a od vs, v = .ref a ∧ F a = some (.frz od (dnO a (ks.zip vs))) ∧ ks.length = vs.length ∧ Reps S F xs vs
  | .obj c xs, v => ∃ a dx vs, v = .ref a ∧ F a = some (.ins (S.ca c) dx ((flds c).zip vs)) ∧ vs.length ≤ (flds c).length ∧ Reps S F xs vs
  | .xad a, v => v = .ref a
  | .dtt ks xs, v => ∃ a od vs, v = .ref a ∧ F a = some (.frz od (.dT (ks.zip vs))) ∧ ks.length = vs.length ∧ Reps S F xs vs
  | .err c, v => ∃ a φ, v = .ref a ∧ F a = some (.ext φ) ∧ ∀ h, φ h → ErrAt (S.ca c) a h
def Reps (S : Sg) (F : Hp) : List PV → List V → Prop
  | [], vs => vs = []
  | x :: xs, vs => ∃ v r, vs = v :: r ∧ Rep S F x v ∧ Reps S F xs r
end

theorem SqT.same {K : PySem.W.Frag} {H H' : Hp} {a : Addr} {xs : List V} (e : Same H H') (h : SqT K H a xs) : SqT K H' a xs := by
  rcases h with (h | ⟨o, h⟩) | h
  · exact .inl (.inl (e _ _ h))
  · exact .inl (.inr ⟨o, e _ _ h⟩)
  · exact .inr h

theorem Rd.same {H H' : Hp} {a : Addr} {u : HO} (e : Same H H') (h : Rd H a u) : Rd H' a u := by
  rcases h with h | ⟨o, h⟩
  · exact .inl (e _ _ h)
  · exact .inr ⟨o, e _ _ h⟩
theorem SqL.same {K : PySem.W.Frag} {H H' : Hp} {a : Addr} {xs : List V} (e : Same H H') (h : SqL K H a xs) : SqL K H' a xs := by
  rcases h with h | h
  · exact .inl (Rd.same e h)
  · exact .inr h

mutual
theorem Rep.mono {S : Sg} {F F' : Hp} (e : Same F F') : ∀ (x : PV) (v : V), Rep S F x v → Rep S F' x v
  | .non, v, h => h
  | .bl b, v, h => h
  | .int i, v, h => h
  | .str x, v, h => h
  | .ty n, v, h => h
  | .cls c, v, h => h
  | .tup xs, v, h => by
    obtain ⟨a, vs, h1, h2, h3⟩ := h
    exact ⟨a, vs, h1, SqT.same e h2, Reps.mono e xs vs h3⟩
  | .lst xs, v, h => by
    obtain ⟨a, vs, h1, h2, h3⟩ := h
    exact ⟨a, vs, h1, SqL.same e h2, Reps.mono e xs vs h3⟩
  | .dct ks xs, v, h => by
    obtain ⟨a, od, vs, h1, h2, h3, h4⟩ := h
    exact ⟨a, od, vs, h1, e _ _ h2, h3, Reps.mono e xs vs h4⟩
  | .dcn ks xs, v, h => by
    obtain ⟨a, od, vs, h1, h2, h3, h4⟩ := h
    exact ⟨a, od, vs, h1, e _ _ h2, h3, Reps.mono e xs vs h4⟩
  | .obj c xs, v, h => by
    obtain ⟨a, dx, vs, h1, h2, h3, h4⟩ := h
    exact ⟨a, dx, vs, h1, e _ _ h2, h3, Reps.mono e xs vs h4⟩
  | .xad a, v, h => h
  | .dtt ks xs, v, h => by
    obtain ⟨a, od, vs, h1, h2, h3, h4⟩ := h
    exact ⟨a, od, vs, h1, e _ _ h2, h3, Reps.mono e xs vs h4⟩
  | .err c, v, h => by
    obtain ⟨a, φ, h1, h2, h3⟩ := h
    exact ⟨a, φ, h1, e _ _ h2, h3⟩
theorem Reps.mono {S : Sg} {F F' : Hp} (e : Same F F') : ∀ (xs : List PV) (vs : List V), Reps S F xs vs → Reps S F' xs vs
  | [], vs, h => h
  | x :: xs, vs, h => by
    obtain ⟨v, r, h1, h2, h3⟩ := h
    exact ⟨v, r, h1, Rep.mono e x v h2, Reps.mono e xs r h3⟩
end

section
variable {S : Sg} {F F' H : Hp}
theorem Reps.nil : Reps S F [] [] := rfl
theorem Reps.cons {x : PV} {v : V} {xs : List PV} {vs : List V} (h : Rep S F x v) (t : Reps S F xs vs) : Reps S F (x :: xs) (v :: vs) := ⟨v, vs, rfl, h, t⟩
theorem Reps.length : ∀ {xs : List PV} {vs : List V}, Reps S F xs vs → xs.length = vs.length
  | [], vs, h => by
    have h : vs = [] := h
    subst h
    rfl
  | x :: xs, vs, h => by
    obtain ⟨v, r, rfl, _, h3⟩ := h
    have := Reps.length h3
    simp [this]
theorem Reps.get : ∀ {xs : List PV} {vs : List V} {i : Nat} {x : PV}, Reps S F xs vs → xs[i]? = some x → ∃ v, vs[i]? = some v ∧ Rep S F x v
  | [], _, _, _, _, e => by simp at e
  | y :: ys, vs, 0, x, h, e => by
    obtain ⟨v, r, rfl, h2, _⟩ := h
    simp at e
    subst e
    exact ⟨v, rfl, h2⟩
  | y :: ys, vs, i + 1, x, h, e => by
    obtain ⟨v, r, rfl, _, h3⟩ := h
    simp at e
    obtain ⟨w, e2, h4⟩ := Reps.get h3 e
    exact ⟨w, by simpa using e2, h4⟩
theorem Reps.getV : ∀ {xs : List PV} {vs : List V} {i : Nat} {v : V}, Reps S F xs vs → vs[i]? = some v → ∃ x, xs[i]? = some x ∧ Rep S F x v
  | [], vs, i, v, h, e => by
    have h : vs = [] := h
    subst h
    simp at e
  | y :: ys, vs, 0, v, h, e => by
    obtain ⟨w, r, rfl, h2, _⟩ := h
    simp at e
    subst e
    exact ⟨y, rfl, h2⟩
  | y :: ys, vs, i + 1, v, h, e => by
    obtain ⟨w, r, rfl, _, h3⟩ := h
    simp at e
    obtain ⟨x, e2, h4⟩ := Reps.getV h3 e
    exact ⟨x, by simpa using e2, h4⟩
theorem Reps.append : ∀ {xs ys : List PV} {vs ws : List V}, Reps S F xs vs → Reps S F ys ws → Reps S F (xs ++ ys) (vs ++ ws)
  | [], _, vs, _, h, t => by
    have h : vs = [] := h
    subst h
    exact t
  | x :: xs, ys, vs, ws, h, t => by
    obtain ⟨v, r, rfl, h2, h3⟩ := h
    exact ⟨v, r ++ ws, rfl, h2, Reps.append h3 t⟩
theorem Reps.set {x : PV} {v : V} (r : Rep S F x v) : ∀ {xs : List PV} {vs : List V} (i : Nat), Reps S F xs vs → Reps S F (xs.set i x) (vs.set i v)
  | [], vs, _, h => by
    have h : vs = [] := h
    subst h
    exact rfl
  | y :: ys, vs, 0, h => by
    obtain ⟨w, t, rfl, _, h3⟩ := h
    exact ⟨v, t, rfl, r, h3⟩
  | y :: ys, vs, i + 1, h => by
    obtain ⟨w, t, rfl, h2, h3⟩ := h
    exact ⟨w, t.set i v, rfl, h2, Reps.set r i h3⟩
theorem Reps.take : ∀ {xs : List PV} {vs : List V} (n : Nat), Reps S F xs vs → Reps S F (xs.take n) (vs.take n)
  | [], vs, n, h => by
    have h : vs = [] := h
    subst h
    simp [Reps]
  | y :: ys, vs, 0, h => by
    obtain ⟨w, t, rfl, _, h3⟩ := h
    exact rfl
  | y :: ys, vs, i + 1, h => by
    obtain ⟨w, t, rfl, h2, h3⟩ := h
    exact ⟨w, t.take i, rfl, h2, Reps.take i h3⟩
theorem Reps.drop : ∀ {xs : List PV} {vs : List V} (n : Nat), Reps S F xs vs → Reps S F (xs.drop n) (vs.drop n)
  | [], vs, n, h => by
    have h : vs = [] := h
    subst h
    simp [Reps]
  | y :: ys, vs, 0, h => h
  | y :: ys, vs, i + 1, h => by
    obtain ⟨w, t, rfl, h2, h3⟩ := h
    simpa using Reps.drop i h3
end

/-- what stands at p is x: an object that may be written; its parts are frozen -/
def Top (S : Sg) (F H : Hp) (p : Addr) : PV → Prop
  | .lst xs => ∃ vs, H p = some (.lst vs) ∧ Reps S F xs vs
  | .dct ks xs => ∃ vs, H p = some (.dK (ks.zip vs)) ∧ ks.length = vs.length ∧ Reps S F xs vs
  | .dcn ks xs => ∃ vs, H p = some (dnO p (ks.zip vs)) ∧ ks.length = vs.length ∧ Reps S F xs vs
  | .dtt ks xs => ∃ vs, H p = some (.dT (ks.zip vs)) ∧ ks.length = vs.length ∧ Reps S F xs vs
  | .obj c xs => ∃ dx vs, H p = some (.ins (S.ca c) dx ((flds c).zip vs)) ∧ vs.length ≤ (flds c).length ∧ Reps S F xs vs
  | _ => False
theorem Top.mono {S : Sg} {F F' H H' : Hp} {p : Addr} (e : Same F F') (hp : H' p = H p) : ∀ {x : PV}, Top S F H p x → Top S F' H' p x := fun {x} h => by
  cases x with
  | lst xs =>
    obtain ⟨vs, h1, h2⟩ := h
    exact ⟨vs, hp.trans h1, Reps.mono e _ _ h2⟩
  | dct ks xs =>
    obtain ⟨vs, h1, h2, h3⟩ := h
    exact ⟨vs, hp.trans h1, h2, Reps.mono e _ _ h3⟩
  | dcn ks xs =>
    obtain ⟨vs, h1, h2, h3⟩ := h
    exact ⟨vs, hp.trans h1, h2, Reps.mono e _ _ h3⟩
  | dtt ks xs =>
    obtain ⟨vs, h1, h2, h3⟩ := h
    exact ⟨vs, hp.trans h1, h2, Reps.mono e _ _ h3⟩
  | obj c xs =>
    obtain ⟨dx, vs, h1, h2, h3⟩ := h
    exact ⟨dx, vs, hp.trans h1, h2, Reps.mono e _ _ h3⟩
  | _ => exact (show False from h).elim
theorem Top.there {S : Sg} {F H : Hp} {p : Addr} : ∀ {x : PV}, Top S F H p x → ∃ o, H p = some o := fun {x} h => by
  cases x with
  | lst xs => obtain ⟨vs, h1, h2⟩ := h; exact ⟨_, h1⟩
  | dct ks xs => obtain ⟨vs, h1, h2⟩ := h; exact ⟨_, h1⟩
  | dcn ks xs => obtain ⟨vs, h1, h2⟩ := h; exact ⟨_, h1⟩
  | dtt ks xs => obtain ⟨vs, h1, h2⟩ := h; exact ⟨_, h1⟩
  | obj c xs => obtain ⟨dx, vs, h1, h2⟩ := h; exact ⟨_, h1⟩
  | _ => exact (show False from h).elim
def PV.isD : PV → Bool
  | .dct _ _ => true
  | .dcn _ _ => true
  | .dtt _ _ => true
  | _ => false
/-- frozen -/
theorem Top.rep {S : Sg} {F H : Hp} {p : Addr} (e : F p = H p) : ∀ {x : PV}, x.isD = false → Top S F H p x → Rep S F x (.ref p) := fun {x} nd h => by
  cases x with
  | lst xs => obtain ⟨vs, h1, h2⟩ := h; exact ⟨p, vs, rfl, .inl (Rd.of (e.trans h1)), h2⟩
  | dct ks xs => cases nd
  | dcn ks xs => cases nd
  | dtt ks xs => cases nd
  | obj c xs => obtain ⟨dx, vs, h1, h2, h3⟩ := h; exact ⟨p, dx, vs, rfl, e.trans h1, h2, h3⟩
  | _ => exact (show False from h).elim

/-- a slot: nothing known, a frozen value, a new object that nobody else holds, an object handed in to be written -/
inductive Sl where
  | un | pu (x : PV) | ow (x : PV) | io (x : PV)
/-- an object that may be written -/
inductive Sl.Mt : Sl → PV → Prop where
  | ow (x : PV) : Sl.Mt (.ow x) x
  | io (x : PV) : Sl.Mt (.io x) x
def Sl.put : Sl → PV → Sl
  | .ow _, y => .ow y
  | _, y => .io y
abbrev Rh := List Sl

theorem same_upd {F : Hp} {p : Addr} {o : HO} (h : F p = none) : Same F (upd F p o) := fun b u e => by
  rw [upd_ne (ne_of_none e h)]
  exact e
theorem same_upd2 {F H : Hp} {p : Addr} {o : HO} (h : Same F H) : Same (upd F p o) (upd H p o) := fun b u e => by
  by_cases q : b = p
  · subst q
    rw [upd_same] at e ⊢
    exact e
  · rw [upd_ne q] at e ⊢
    exact h b u e

/-- the entry of a def: frozen and whole heap, the objects handed in to be written, and where they are -/
structure Fr where
  F : Hp
  H : Hp
  pin : List (Option Addr)
def Fr.own (φ : Fr) : List Addr := φ.pin.filterMap id

structure Stt (S : Sg) (φ : Fr) (ρ : Rh) (F : Hp) (σ : L2.St) (H : Hp) : Prop where
  len : ρ.length ≤ σ.length
  same : Same F H
  fF : Same φ.F F
  k1 : ∀ a o, φ.H a = some o → a ∉ φ.own → H a = some o
  k2 : ∀ a, φ.H a ≠ none → φ.F a = none → a ∉ φ.own → F a = none
  k3 : ∀ p, p ∈ φ.own → H p ≠ none
  slot : ∀ (i : Nat) (s : Sl), ρ[i]? = some s → match s with
    | .un => True
    | .pu x => ∃ v, σ[i]? = some (some v) ∧ Rep S F x v
    | .ow x => ∃ p, σ[i]? = some (some (.ref p)) ∧ F p = none ∧ φ.H p = none ∧ Top S F H p x
    | .io x => ∃ p, σ[i]? = some (some (.ref p)) ∧ F p = none ∧ φ.pin[i]? = some (some p) ∧ Top S F H p x
  sep : ∀ (i j : Nat) (s t : Sl) (x y : PV) (p : Addr), ρ[i]? = some s → ρ[j]? = some t → s.Mt x → t.Mt y → σ[i]? = some (some (.ref p)) → σ[j]? = some (some (.ref p)) → i = j

/-- the heap has grown: what may be written is as it was -/
structure Gw (F H F' H' : Hp) : Prop where
  f : Same F F'
  h : Same H H'
  fh : Same F' H'
  o : ∀ a, H a ≠ none → F a = none → F' a = none
theorem Gw.rfl' {F H : Hp} (h : Same F H) : Gw F H F H := ⟨Same.refl _, Same.refl _, h, fun _ _ e => e⟩
theorem Gw.trans {F H F1 H1 F2 H2 : Hp} (a : Gw F H F1 H1) (b : Gw F1 H1 F2 H2) : Gw F H F2 H2 := ⟨a.f.trans b.f, a.h.trans b.h, b.fh, fun x hx e => b.o x (fun z => hx (a.h.free z)) (a.o x hx e)⟩
/-- a new frozen object -/
theorem Gw.new {F H : Hp} {p : Addr} {o : HO} (s : Same F H) (h : H p = none) : Gw F H (upd F p o) (upd H p o) :=
  ⟨same_upd (s.free h), same_upd h, same_upd2 s, fun a ha e => by
    have q : a ≠ p := fun z => ha (by rw [z]; exact h)
    rw [upd_ne q]
    exact e⟩
/-- a new object that may be written -/
theorem Gw.newOwn {F H : Hp} {p : Addr} {o : HO} (s : Same F H) (h : H p = none) : Gw F H F (upd H p o) :=
  ⟨Same.refl _, same_upd h, s.trans (same_upd h), fun _ _ e => e⟩

section
variable {S : Sg} {φ : Fr} {ρ : Rh} {F F' H H' : Hp} {σ : L2.St}
theorem Fr.mem_own {i : Nat} {p : Addr} (h : φ.pin[i]? = some (some p)) : p ∈ φ.own := List.mem_filterMap.mpr ⟨some p, List.mem_of_getElem? h, rfl⟩
theorem Stt.grow (s : Stt S φ ρ F σ H) (g : Gw F H F' H') : Stt S φ ρ F' σ H' where
  len := s.len
  same := g.fh
  fF := s.fF.trans g.f
  k1 := fun a o e n => g.h a o (s.k1 a o e n)
  k2 := fun a e f n => g.o a (by
    cases q : φ.H a with
    | none => exact absurd q e
    | some o => rw [s.k1 a o q n]; simp) (s.k2 a e f n)
  k3 := fun p h z => s.k3 p h (g.h.free z)
  slot := fun i t e => by
    have q := s.slot i t e
    cases t with
    | un => exact True.intro
    | pu x =>
      obtain ⟨v, h1, h2⟩ := q
      exact ⟨v, h1, Rep.mono g.f _ _ h2⟩
    | ow x =>
      obtain ⟨p, h1, h2, h3, h4⟩ := q
      obtain ⟨o, ho⟩ := h4.there
      exact ⟨p, h1, g.o p (by rw [ho]; simp) h2, h3, Top.mono g.f ((g.h p o ho).trans ho.symm) h4⟩
    | io x =>
      obtain ⟨p, h1, h2, h3, h4⟩ := q
      obtain ⟨o, ho⟩ := h4.there
      exact ⟨p, h1, g.o p (by rw [ho]; simp) h2, h3, Top.mono g.f ((g.h p o ho).trans ho.symm) h4⟩
  sep := s.sep
/-- where an object that may be written stands -/
theorem Stt.mt (s : Stt S φ ρ F σ H) {i : Nat} {t : Sl} {x : PV} (e : ρ[i]? = some t) (m : t.Mt x) :
    ∃ p, σ[i]? = some (some (.ref p)) ∧ F p = none ∧ Top S F H p x ∧ (φ.H p = none ∨ p ∈ φ.own) := by
  cases m with
  | ow x =>
    obtain ⟨p, h1, h2, h3, h4⟩ := s.slot i _ e
    exact ⟨p, h1, h2, h4, .inl h3⟩
  | io x =>
    obtain ⟨p, h1, h2, h3, h4⟩ := s.slot i _ e
    exact ⟨p, h1, h2, h4, .inr (Fr.mem_own h3)⟩
/-- an object at p, new since the entry, that no slot may write, is frozen (as o: itself, or known to the object) -/
theorem Stt.freezeAs {p : Addr} {o : HO} (s : Stt S φ ρ F σ H) (fp : F p = none) (np : φ.H p = none)
    (no : ∀ (i : Nat) (t : Sl) (x : PV), ρ[i]? = some t → t.Mt x → σ[i]? ≠ some (some (.ref p))) : Same F (upd F p o) ∧ Stt S φ ρ (upd F p o) σ (upd H p o) := by
  have fr : Same F (upd F p o) := same_upd fp
  refine ⟨fr, s.len, same_upd2 s.same, s.fF.trans fr, fun a u q n => ?_, fun a h5 h6 h7 => ?_, fun a h e => ?_, fun j t q => ?_, s.sep⟩
  · rw [upd_ne (fun z => by rw [z, np] at q; cases q)]
    exact s.k1 a u q n
  · have z : a ≠ p := fun z => by
      subst z
      exact h5 np
    rw [upd_ne z]
    exact s.k2 a h5 h6 h7
  · by_cases z : a = p
    · subst z
      rw [upd_same] at e
      cases e
    · rw [upd_ne z] at e
      exact s.k3 a h e
  · have w := s.slot j t q
    cases t with
    | un => exact True.intro
    | pu y =>
      obtain ⟨v, k1, k2⟩ := w
      exact ⟨v, k1, Rep.mono fr _ _ k2⟩
    | ow y =>
      obtain ⟨p', k1, k2, k3, k4⟩ := w
      have nq : p' ≠ p := fun z' => by
        subst z'
        exact no j _ y q (.ow y) k1
      exact ⟨p', k1, by rw [upd_ne nq]; exact k2, k3, Top.mono fr (upd_ne nq) k4⟩
    | io y =>
      obtain ⟨p', k1, k2, k3, k4⟩ := w
      have nq : p' ≠ p := fun z' => by
        subst z'
        exact no j _ y q (.io y) k1
      exact ⟨p', k1, by rw [upd_ne nq]; exact k2, k3, Top.mono fr (upd_ne nq) k4⟩
theorem upd_self {H : Hp} {p : Addr} {o : HO} (h : H p = some o) : upd H p o = H := by
  funext b
  by_cases z : b = p
  · subst z
    rw [upd_same, h]
  · rw [upd_ne z]
/-- what a frozen thing is known as -/
inductive Fzn : PV → HO → HO → Prop where
  | same {x : PV} {o : HO} (h : x.isD = false) : Fzn x o o
  | dct {ks : List Key} {xs : List PV} {o : HO} (od : Obj) : Fzn (.dct ks xs) o (.frz od o)
  | dcn {ks : List (Option Int)} {xs : List PV} {o : HO} (od : Obj) : Fzn (.dcn ks xs) o (.frz od o)
  | dtt {ks : List (List Key)} {xs : List PV} {o : HO} (od : Obj) : Fzn (.dtt ks xs) o (.frz od o)
theorem Top.fzn {p : Addr} {x : PV} {o o' : HO} {F' H' : Hp} (t : Top S F H p x) (ho : H p = some o) (z : Fzn x o o') (fp : F p = none) : Rep S (upd F p o') x (.ref p) := by
  have fr : Same F (upd F p o') := same_upd fp
  cases z with
  | same h => exact Top.rep (F := upd F p o) (H := H) (by rw [upd_same, ho]) h (Top.mono fr rfl t)
  | dct od =>
    obtain ⟨vs, h1, h2, h3⟩ := t
    rw [ho] at h1
    cases h1
    exact ⟨p, od, vs, rfl, upd_same, h2, Reps.mono fr _ _ h3⟩
  | dcn od =>
    obtain ⟨vs, h1, h2, h3⟩ := t
    rw [ho] at h1
    cases h1
    exact ⟨p, od, vs, rfl, upd_same, h2, Reps.mono fr _ _ h3⟩
  | dtt od =>
    obtain ⟨vs, h1, h2, h3⟩ := t
    rw [ho] at h1
    cases h1
    exact ⟨p, od, vs, rfl, upd_same, h2, Reps.mono fr _ _ h3⟩
/-- slot i is set, its value anything that is so -/
theorem Stt.setPu {i : Nat} {x : PV} {v : V} (s : Stt S φ ρ F σ H) (r : Rep S F x v) : Stt S φ (ρ.set i (.pu x)) F (σ.set i (some v)) H where
  len := by simpa using s.len
  same := s.same
  fF := s.fF
  k1 := s.k1
  k2 := s.k2
  k3 := s.k3
  slot := fun j t e => by
    by_cases z : i = j
    · subst z
      by_cases hl : i < ρ.length
      · rw [List.getElem?_set_self hl] at e
        cases e
        exact ⟨v, List.getElem?_set_self (Nat.lt_of_lt_of_le hl s.len), r⟩
      · rw [List.getElem?_eq_none (by simpa using hl)] at e
        cases e
    · rw [List.getElem?_set_ne z] at e
      rw [List.getElem?_set_ne z]
      exact s.slot j t e
  sep := fun j k t u y z p a b c d e f => by
    have nj : i ≠ j := fun w => by
      subst w
      by_cases hl : i < ρ.length
      · rw [List.getElem?_set_self hl] at a
        cases a
        cases c
      · rw [List.getElem?_eq_none (by simpa using hl)] at a
        cases a
    have nk : i ≠ k := fun w => by
      subst w
      by_cases hl : i < ρ.length
      · rw [List.getElem?_set_self hl] at b
        cases b
        cases d
      · rw [List.getElem?_eq_none (by simpa using hl)] at b
        cases b
    rw [List.getElem?_set_ne nj] at a e
    rw [List.getElem?_set_ne nk] at b f
    exact s.sep j k t u y z p a b c d e f
/-- .. a new object that nobody else holds -/
theorem Stt.setOw {i : Nat} {x : PV} {p : Addr} (s : Stt S φ ρ F σ H) (fp : F p = none) (np : φ.H p = none) (tp : Top S F H p x)
    (no : ∀ (i : Nat) (t : Sl) (x : PV), ρ[i]? = some t → t.Mt x → σ[i]? ≠ some (some (.ref p))) : Stt S φ (ρ.set i (.ow x)) F (σ.set i (some (.ref p))) H where
  len := by simpa using s.len
  same := s.same
  fF := s.fF
  k1 := s.k1
  k2 := s.k2
  k3 := s.k3
  slot := fun j t e => by
    by_cases z : i = j
    · subst z
      by_cases hl : i < ρ.length
      · rw [List.getElem?_set_self hl] at e
        cases e
        exact ⟨p, List.getElem?_set_self (Nat.lt_of_lt_of_le hl s.len), fp, np, tp⟩
      · rw [List.getElem?_eq_none (by simpa using hl)] at e
        cases e
    · rw [List.getElem?_set_ne z] at e
      rw [List.getElem?_set_ne z]
      exact s.slot j t e
  sep := fun j k t u y z q a b c d e f => by
    by_cases nj : i = j
    · by_cases nk : i = k
      · rw [← nj, ← nk]
      · exfalso
        subst nj
        rw [List.getElem?_set_ne nk] at b f
        by_cases hl : i < ρ.length
        · rw [List.getElem?_set_self (Nat.lt_of_lt_of_le hl s.len)] at e
          cases e
          exact no k u z b d f
        · rw [List.getElem?_eq_none (by simpa using hl)] at a
          cases a
    · rw [List.getElem?_set_ne nj] at a e
      by_cases nk : i = k
      · exfalso
        subst nk
        by_cases hl : i < ρ.length
        · rw [List.getElem?_set_self (Nat.lt_of_lt_of_le hl s.len)] at f
          cases f
          exact no j t y a c e
        · rw [List.getElem?_eq_none (by simpa using hl)] at b
          cases b
      · rw [List.getElem?_set_ne nk] at b f
        exact s.sep j k t u y z q a b c d e f
/-- a slot is forgotten -/
theorem Stt.unset {i : Nat} {w : Option V} (s : Stt S φ ρ F σ H) : Stt S φ (ρ.set i .un) F (σ.set i w) H where
  len := by simpa using s.len
  same := s.same
  fF := s.fF
  k1 := s.k1
  k2 := s.k2
  k3 := s.k3
  slot := fun j t e => by
    by_cases z : i = j
    · subst z
      by_cases hl : i < ρ.length
      · rw [List.getElem?_set_self hl] at e
        cases e
        exact True.intro
      · rw [List.getElem?_eq_none (by simpa using hl)] at e
        cases e
    · rw [List.getElem?_set_ne z] at e
      rw [List.getElem?_set_ne z]
      exact s.slot j t e
  sep := fun j k t u y z p a b c d e f => by
    have key : ∀ {m : Nat} {t : Sl} {y : PV}, (ρ.set i Sl.un)[m]? = some t → t.Mt y → i ≠ m := fun {m t y} a c w => by
      subst w
      by_cases hl : i < ρ.length
      · rw [List.getElem?_set_self hl] at a
        cases a
        cases c
      · rw [List.getElem?_eq_none (by simpa using hl)] at a
        cases a
    have nj := key a c
    have nk := key b d
    rw [List.getElem?_set_ne nj] at a e
    rw [List.getElem?_set_ne nk] at b f
    exact s.sep j k t u y z p a b c d e f
/-- .. where the slots themselves stay -/
theorem Stt.forget {i : Nat} (s : Stt S φ ρ F σ H) : Stt S φ (ρ.set i .un) F σ H := by
  have q := Stt.unset (i := i) (w := (σ[i]?).getD none) s
  have e : σ.set i ((σ[i]?).getD none) = σ := by
    apply List.ext_getElem?
    intro j
    by_cases z : i = j
    · subst z
      by_cases hl : i < σ.length
      · rw [List.getElem?_set_self hl, List.getElem?_eq_getElem hl]
        rfl
      · rw [List.getElem?_eq_none (by simpa using hl), List.getElem?_eq_none (by simpa using hl)]
    · rw [List.getElem?_set_ne z]
  rw [e] at q
  exact q
/-- the object in slot i is frozen -/
theorem Stt.freeze {i : Nat} {x : PV} {p : Addr} {o o' : HO} (s : Stt S φ ρ F σ H) (e : ρ[i]? = some (.ow x)) (h1 : σ[i]? = some (some (.ref p))) (ho : H p = some o) (z : Fzn x o o') :
    Rep S (upd F p o') x (.ref p) ∧ Same F (upd F p o') ∧ Stt S φ (ρ.set i (.pu x)) (upd F p o') σ (upd H p o') := by
  obtain ⟨p', h1', h2, h3, h4⟩ := s.slot i _ e
  rw [h1] at h1'
  cases h1'
  have lt : i < ρ.length := (List.getElem?_eq_some_iff.mp e).1
  have s1 : Stt S φ (ρ.set i .un) F σ H := s.forget
  obtain ⟨fr, s2⟩ := s1.freezeAs (o := o') h2 h3 fun j t y a b c => by
    by_cases z : i = j
    · subst z
      rw [List.getElem?_set_self lt] at a
      cases a
      cases b
    · rw [List.getElem?_set_ne z] at a
      exact z (s.sep i j _ t x y p e a (.ow x) b h1 c)
  have rp : Rep S (upd F p o') x (.ref p) := Top.fzn (F' := F) (H' := H) h4 ho z h2
  have lts : i < σ.length := (List.getElem?_eq_some_iff.mp h1).1
  have s3 := s2.setPu (i := i) rp
  rw [List.set_set] at s3
  have es : σ.set i (some (V.ref p)) = σ := by
    apply List.ext_getElem?
    intro j
    by_cases z : i = j
    · subst z
      rw [List.getElem?_set_self lts, h1]
    · rw [List.getElem?_set_ne z]
  rw [es] at s3
  exact ⟨rp, fr, s3⟩
/-- the object at slot i is written -/
theorem Stt.write {i : Nat} {t : Sl} {x y : PV} {p : Addr} {o : HO} (s : Stt S φ ρ F σ H) (e : ρ[i]? = some t) (m : t.Mt x) (hp : σ[i]? = some (some (.ref p))) (top : ∀ H', H' p = some o → Top S F H' p y) :
    Stt S φ (ρ.set i (t.put y)) F σ (upd H p o) := by
  obtain ⟨p', h1, h2, h3, h4⟩ := s.mt e m
  rw [hp] at h1
  cases h1
  have lt : i < ρ.length := (List.getElem?_eq_some_iff.mp e).1
  have oth : ∀ {b : Addr}, b ≠ p → upd H p o b = H b := fun {b} z => upd_ne z
  refine ⟨by simpa using s.len, fun b u q => ?_, s.fF, fun a u q n => ?_, s.k2, fun a h e => ?_, fun j u q => ?_, fun j k u v y' z' q a b c d e' f => ?_⟩
  · rw [oth (ne_of_none q h2)]
    exact s.same b u q
  · rw [oth fun z => ?_]
    · exact s.k1 a u q n
    · subst z
      rcases h4 with h4 | h4
      · rw [h4] at q; cases q
      · exact n h4
  · by_cases z : a = p
    · subst z
      rw [upd_same] at e
      cases e
    · rw [upd_ne z] at e
      exact s.k3 a h e
  · by_cases z : i = j
    · subst z
      rw [List.getElem?_set_self lt] at q
      cases q
      have w := s.slot i _ e
      cases m with
      | ow x =>
        obtain ⟨p', k1, k2, k3, k4⟩ := w
        rw [hp] at k1
        cases k1
        exact ⟨p, hp, k2, k3, top _ upd_same⟩
      | io x =>
        obtain ⟨p', k1, k2, k3, k4⟩ := w
        rw [hp] at k1
        cases k1
        exact ⟨p, hp, k2, k3, top _ upd_same⟩
    · rw [List.getElem?_set_ne z] at q
      have w := s.slot j u q
      cases u with
      | un => exact True.intro
      | pu y' => exact w
      | ow y' =>
        obtain ⟨p', k1, k2, k3, k4⟩ := w
        refine ⟨p', k1, k2, k3, Top.mono (Same.refl _) (oth fun z' => ?_) k4⟩
        subst z'
        exact z (s.sep i j _ _ x y' p' e q m (.ow y') hp k1)
      | io y' =>
        obtain ⟨p', k1, k2, k3, k4⟩ := w
        refine ⟨p', k1, k2, k3, Top.mono (Same.refl _) (oth fun z' => ?_) k4⟩
        subst z'
        exact z (s.sep i j _ _ x y' p' e q m (.io y') hp k1)
  · have key : ∀ {n : Nat} {u : Sl} {y' : PV}, (ρ.set i (t.put y))[n]? = some u → u.Mt y' → ∃ (t' : Sl) (w : PV), ρ[n]? = some t' ∧ t'.Mt w := fun {n u y'} q1 q2 => by
      by_cases z : i = n
      · subst z
        exact ⟨t, x, e, m⟩
      · rw [List.getElem?_set_ne z] at q1
        exact ⟨u, y', q1, q2⟩
    obtain ⟨t1, w1, r1, r2⟩ := key a c
    obtain ⟨t2, w2, r3, r4⟩ := key b d
    exact s.sep j k t1 t2 w1 w2 q r1 r3 r2 r4 e' f
end
end Y


namespace L2
open PySem PySem.Spec
theorem PE.imp {X : Cx} {e : Expr} {t t' : TE} (h : PE X e t) (i : ∀ σ H Q, t' σ H Q → t σ H Q) : PE X e t' := ⟨fun pins s σ H Q I q => h.run pins s σ H Q I (i σ H Q q)⟩
theorem PT.imp {X : Cx} {e : Expr} {t t' : TT} (h : PT X e t) (i : ∀ σ H Q, t' σ H Q → t σ H Q) : PT X e t' := ⟨fun pins s σ H Q I q => h.run pins s σ H Q I (i σ H Q q)⟩
theorem PW.imp {X : Cx} {e : Expr} {t t' : TT} (h : PW X e t) (i : ∀ σ H Q, t' σ H Q → t σ H Q) : PW X e t' := ⟨fun w pins s σ H Q I q => h.run w pins s σ H Q I (i σ H Q q)⟩
end L2

namespace Y
open PySem PySem.Spec L2

inductive Ou (α : Type) where
  | ok (a : α) | ex (c : Cid)
abbrev SM (α : Type) := Rh → Option (Ou α × Rh)
def SM.bind {α β : Type} (m : SM α) (k : α → SM β) : SM β := fun ρ => match m ρ with
  | some (.ok a, ρ') => k a ρ'
  | some (.ex c, ρ') => some (.ex c, ρ')
  | none => none
abbrev SE := SM PV

/-- an outcome is as wished -/
def OG {α : Type} (S : Sg) (φ : Fr) (W : WX) (F : Hp) (σ : L2.St) (P : α → Rh → Hp → Hp → Prop) : Ou α × Rh → Prop
  | (.ok a, ρ') => ∀ F' H', Stt S φ ρ' F' σ H' → Same F F' → P a ρ' F' H'
  | (.ex c, ρ') => ∀ F' H', Stt S φ ρ' F' σ H' → Same F F' → W (.ref (S.ca c)) none σ H'
section
variable {α β : Type} {S : Sg} {φ : Fr} {W : WX} {F F1 : Hp} {σ : L2.St} {P P' : α → Rh → Hp → Hp → Prop}
theorem OG.imp {r : Ou α × Rh} (o : OG S φ W F σ P r) (h : ∀ a ρ' F' H', Stt S φ ρ' F' σ H' → Same F F' → P a ρ' F' H' → P' a ρ' F' H') : OG S φ W F σ P' r := by
  obtain ⟨a, ρ'⟩ := r
  cases a with
  | ok a => exact fun F' H' s e => h a ρ' F' H' s e (o F' H' s e)
  | ex c => exact o
theorem OG.up {r : Ou α × Rh} (o : OG S φ W F σ P r) (e : Same F F1) : OG S φ W F1 σ P r := by
  obtain ⟨a, ρ'⟩ := r
  cases a with
  | ok a => exact fun F' H' s f => o F' H' s (e.trans f)
  | ex c => exact fun F' H' s f => o F' H' s (e.trans f)
/-- one stage behind another -/
def St2 (S : Sg) (φ : Fr) (W : WX) (σ : L2.St) (k : α → SM β) (P : β → Rh → Hp → Hp → Prop) : α → Rh → Hp → Hp → Prop := fun a ρ1 F1 _ => ∃ r, k a ρ1 = some r ∧ OG S φ W F1 σ P r
theorem OG.seq {m : SM α} {k : α → SM β} {ρ : Rh} {r : Ou β × Rh} {P : β → Rh → Hp → Hp → Prop} (e : m.bind k ρ = some r) (o : OG S φ W F σ P r) :
    ∃ r1, m ρ = some r1 ∧ OG S φ W F σ (St2 S φ W σ k P) r1 := by
  unfold SM.bind at e
  cases q : m ρ with
  | none => rw [q] at e; cases e
  | some z =>
    obtain ⟨a, ρ1⟩ := z
    rw [q] at e
    cases a with
    | ok a => exact ⟨_, rfl, fun F' H' s f => ⟨r, e, o.up f⟩⟩
    | ex c =>
      cases e
      exact ⟨_, rfl, o⟩
end

section
variable (S : Sg) (φ : Fr) (W : WX)
/-- an expression that gives a frozen value -/
def tJ (f : SE) : TE := fun σ H Q => ∃ ρ F r, Stt S φ ρ F σ H ∧ f ρ = some r ∧ OG S φ W F σ (fun x ρ' F' H' => ∀ v, Rep S F' x v → Q v H') r
def tT (f : SM Bool) : TT := fun σ H Q => ∃ ρ F r, Stt S φ ρ F σ H ∧ f ρ = some r ∧ OG S φ W F σ (fun b ρ' F' H' => Q b H') r
/-- p is new since the entry, not frozen, and no slot may write it -/
structure Nw (ρ : Rh) (F : Hp) (σ : L2.St) (p : Addr) : Prop where
  f : F p = none
  h : φ.H p = none
  no : ∀ (i : Nat) (t : Sl) (x : PV), ρ[i]? = some t → t.Mt x → σ[i]? ≠ some (some (.ref p))
/-- an expression that gives a new object that nobody holds -/
def tN (f : SE) : TE := fun σ H Q => ∃ ρ F r, Stt S φ ρ F σ H ∧ f ρ = some r ∧ OG S φ W F σ (fun x ρ' F' H' => ∀ p, Nw φ ρ' F' σ p → Top S F' H' p x → Q (.ref p) H') r
/-- .. that is to be read now: frozen, or held by a slot -/
def tB (f : SE) : TE := fun σ H Q => ∃ ρ F r, Stt S φ ρ F σ H ∧ f ρ = some r ∧ OG S φ W F σ (fun x ρ' F' H' => ∀ v, (Rep S F' x v ∨ ∃ p, v = .ref p ∧ Top S F' H' p x) → Q v H') r
end
abbrev JE (X : Cx) (S : Sg) (φ : Fr) (W : WX) (e : Expr) (f : SE) : Prop := PE X e (tJ S φ W f)
abbrev JT (X : Cx) (S : Sg) (φ : Fr) (W : WX) (e : Expr) (f : SM Bool) : Prop := PT X e (tT S φ W f)
abbrev JW (X : Cx) (S : Sg) (φ : Fr) (W : WX) (e : Expr) (f : SM Bool) : Prop := PW X e (tT S φ W f)
abbrev JN (X : Cx) (S : Sg) (φ : Fr) (W : WX) (e : Expr) (f : SE) : Prop := PE X e (tN S φ W f)
abbrev JB (X : Cx) (S : Sg) (φ : Fr) (W : WX) (e : Expr) (f : SE) : Prop := PE X e (tB S φ W f)

section
variable {X : Cx} {S : Sg} {φ : Fr} {W : WX} {e a b c : Expr} {f fa fb fc : SE} {pos : Pos}

/-- a thing is frozen: a dict is locked for good -/
theorem _root_.L2.Inv.fzn {pins : List (Addr × Obj)} {σ : L2.St} {H F : Hp} {s : Shared} {p : Addr} {x : PV} {u : HO} (I : Inv X pins σ H s) (t : Top S F H p x) (hu : H p = some u) :
    ∃ u', Fzn x u u' ∧ Inv X pins σ (upd H p u') s := by
  cases x with
  | dct ks xs =>
    obtain ⟨vs, h1, h2, h3⟩ := t
    rw [hu] at h1
    cases h1
    obtain ⟨od, I2⟩ := I.lock hu True.intro
    exact ⟨_, .dct od, I2⟩
  | dcn ks xs =>
    obtain ⟨vs, h1, h2, h3⟩ := t
    rw [hu] at h1
    cases h1
    obtain ⟨od, I2⟩ := I.lock hu True.intro
    exact ⟨_, .dcn od, I2⟩
  | dtt ks xs =>
    obtain ⟨vs, h1, h2, h3⟩ := t
    rw [hu] at h1
    cases h1
    obtain ⟨od, I2⟩ := I.lock hu True.intro
    exact ⟨_, .dtt od, I2⟩
  | _ => exact ⟨u, .same rfl, by rw [upd_self hu]; exact I⟩

def eC (x : PV) : SE := fun ρ => some (.ok x, ρ)
theorem je_c {x : PV} {v : V} (h : PE X e (tC v)) (r : ∀ F, Rep S F x v) : JE X S φ W e (eC x) := h.imp fun σ H Q ⟨ρ, F, r', s, e1, o⟩ => by
  cases e1
  exact o F H s (Same.refl _) v (r F)
theorem je_int {i : Int} {j : Nat} : JE X S φ W (.Constant (.int i) j pos) (eC (.int i)) := je_c pe_int fun _ => rfl
theorem je_bl {k : Bool} {j : Nat} : JE X S φ W (.Constant (.bool k) j pos) (eC (.bl k)) := je_c pe_bl fun _ => rfl
theorem je_non {j : Nat} : JE X S φ W (.Constant .none j pos) (eC .non) := je_c pe_non fun _ => rfl
theorem je_str {x : Str} {j : Nat} : JE X S φ W (.Constant (.str x) j pos) (eC (.str x)) := je_c pe_str fun _ => rfl
theorem je_cls {x : Str} {c : Cid} (hg : Gl X x) (hm : X.mg x = some (.ref (S.ca c))) (hd : (x == ("__debug__" : Str)) = false := by decide) : JE X S φ W (.Name x pos) (eC (.cls c)) :=
  je_c (pe_glob (v := .ref (S.ca c)) hg hm rfl hd) fun _ => rfl
/-- a name: a frozen value; a new object is frozen by being read so -/
def eV (i : Nat) : SE := fun ρ => match ρ[i]? with
  | some (.pu x) => some (.ok x, ρ)
  | some (.ow x) => some (.ok x, ρ.set i (.pu x))
  | _ => none
theorem je_v (i : Nat) {x : Str} (hN : X.N[i]? = some x := by rfl) (hv : Vis X.env.scope x := by first | exact Or.inl rfl | exact Or.inr (Or.inl rfl) | exact Or.inr (Or.inr rfl)) (hd : (x == ("__debug__" : Str)) = false := by decide)
    (hcd : (x == ("__classdict__" : Str)) = false := by decide) : JE X S φ W (.Name x pos) (eV i) := by
  have pv := pe_var (pos := pos) hN hv hd hcd
  refine ⟨fun pins s0 σ H Q I h => ?_⟩
  obtain ⟨ρ, F, r, s, e1, o⟩ := h
  unfold eV at e1
  split at e1
  · rename_i y q
    cases e1
    obtain ⟨v, h1, h2⟩ := s.slot i _ q
    exact pv.run pins s0 σ H Q I ⟨v, h1, o F H s (Same.refl _) v h2⟩
  · rename_i y q
    cases e1
    obtain ⟨p, h1, h2, h3, h4⟩ := s.slot i _ q
    obtain ⟨u, hu⟩ := h4.there
    obtain ⟨u', z, I2⟩ := I.fzn h4 hu
    obtain ⟨r1, r2, r3⟩ := s.freeze q h1 hu z
    exact pv.run pins s0 σ _ Q I2 ⟨_, h1, o _ _ r3 r2 _ r1⟩
  · cases e1
/-- a name to be read from now -/
def eB (i : Nat) : SE := fun ρ => match ρ[i]? with
  | some (.pu x) => some (.ok x, ρ)
  | some (.ow x) => some (.ok x, ρ)
  | some (.io x) => some (.ok x, ρ)
  | _ => none
theorem jb_v (i : Nat) {x : Str} (hN : X.N[i]? = some x := by rfl) (hv : Vis X.env.scope x := by first | exact Or.inl rfl | exact Or.inr (Or.inl rfl) | exact Or.inr (Or.inr rfl)) (hd : (x == ("__debug__" : Str)) = false := by decide)
    (hcd : (x == ("__classdict__" : Str)) = false := by decide) : JB X S φ W (.Name x pos) (eB i) := (pe_var hN hv hd hcd).imp fun σ H Q ⟨ρ, F, r, s, e1, o⟩ => by
  unfold eB at e1
  split at e1
  · rename_i y q
    cases e1
    obtain ⟨v, h1, h2⟩ := s.slot i _ q
    exact ⟨v, h1, o F H s (Same.refl _) v (.inl h2)⟩
  · rename_i y q
    cases e1
    obtain ⟨p, h1, h2, h3, h4⟩ := s.mt q (.ow y)
    exact ⟨_, h1, o F H s (Same.refl _) _ (.inr ⟨p, rfl, h3⟩)⟩
  · rename_i y q
    cases e1
    obtain ⟨p, h1, h2, h3, h4⟩ := s.mt q (.io y)
    exact ⟨_, h1, o F H s (Same.refl _) _ (.inr ⟨p, rfl, h3⟩)⟩
  · cases e1
theorem JE.toB (h : JE X S φ W e f) : JB X S φ W e f := h.imp fun σ H Q ⟨ρ, F, r, s, e1, o⟩ => ⟨ρ, F, r, s, e1, o.imp fun x ρ' F' H' s' sm q v hv => q v (.inl hv)⟩
/-- a new object, frozen -/
theorem JN.toE (h : JN X S φ W e f) : JE X S φ W e f := by
  refine ⟨fun pins s0 σ H Q I hq => ?_⟩
  obtain ⟨ρ, F, r, s, e1, o⟩ := hq
  refine thn (h.run pins s0 σ H (fun v H1 => ∃ p x ρ' F' , v = .ref p ∧ Stt S φ ρ' F' σ H1 ∧ Nw φ ρ' F' σ p ∧ Top S F' H1 p x ∧ ∀ F2 H2, Stt S φ ρ' F2 σ H2 → Same F' F2 → ∀ v, Rep S F2 x v → Q v H2) I ⟨ρ, F, r, s, e1, ?_⟩) fun u s1 q => ?_
  · obtain ⟨a, ρ'⟩ := r
    cases a with
    | ok x => exact fun F' H' s' sm p nw tp => ⟨p, x, ρ', F', rfl, s', nw, tp, fun F2 H2 s2 sm2 v rv => o F2 H2 s2 (sm.trans sm2) v rv⟩
    | ex c => exact o
  · obtain ⟨v, H1, I1, rv, p, x, ρ', F', ev, s', nw, tp, q⟩ := q
    subst ev
    obtain ⟨u0, hu⟩ := tp.there
    obtain ⟨u', z, I2⟩ := I1.fzn tp hu
    obtain ⟨fr, s2⟩ := s'.freezeAs (o := u') nw.f nw.h nw.no
    exact ⟨_, _, I2, rv, q _ _ s2 fr _ (Top.fzn (F' := F') (H' := H1) tp hu z nw.f)⟩
theorem JN.toB (h : JN X S φ W e f) : JB X S φ W e f := JE.toB (JN.toE h)

def eOp (op : PV → PV → Option PV) (fa fb : SE) : SE := fa.bind fun x => fb.bind fun y => fun ρ => match op x y with
  | some z => some (.ok z, ρ)
  | none => none
/-- an operation on values that raises nothing and changes nothing -/
def Op2 (X : Cx) (S : Sg) (fv : Value → Value → Sem Value) (op : PV → PV → Option PV) : Prop :=
  ∃ r : R2, OpR X fv r ∧ ∀ (F H : Hp) (x y z : PV) (v w : V) (Q : VK), Same F H → Rep S F x v → Rep S F y w → op x y = some z → (∀ u F' H', Gw F H F' H' → Rep S F' z u → Q u H') → r v w H Q
theorem op2_of {fv : Value → Value → Sem Value} {op : PV → PV → Option PV} {r : R2} (h : OpR X fv r)
    (q : ∀ (F H : Hp) (x y z : PV) (v w : V) (Q : VK), Same F H → Rep S F x v → Rep S F y w → op x y = some z → (∀ u F' H', Gw F H F' H' → Rep S F' z u → Q u H') → r v w H Q) : Op2 X S fv op := ⟨r, h, q⟩
theorem Op2.or {fv : Value → Value → Sem Value} {op op' : PV → PV → Option PV} (h : Op2 X S fv op) (h' : Op2 X S fv op') : Op2 X S fv (fun x y => match op x y with
    | some z => some z
    | none => op' x y) := by
  obtain ⟨r, h1, h2⟩ := h
  obtain ⟨r', h1', h2'⟩ := h'
  refine ⟨_, OpR.or h1 h1', fun F H x y z v w Q s a b e k => ?_⟩
  cases q : op x y with
  | some z' =>
    dsimp only at e
    rw [q] at e
    cases e
    exact .inl (h2 F H x y z v w Q s a b q k)
  | none =>
    dsimp only at e
    rw [q] at e
    exact .inr (h2' F H x y z v w Q s a b e k)
theorem two {op : PV → PV → Option PV} {r : R2} (h2 : ∀ (F H : Hp) (x y z : PV) (v w : V) (Q : VK), Same F H → Rep S F x v → Rep S F y w → op x y = some z → (∀ u F' H', Gw F H F' H' → Rep S F' z u → Q u H') → r v w H Q)
    {σ : L2.St} {H : Hp} {Q : VK} (h : tJ S φ W (eOp op fa fb) σ H Q) : tOp r (tJ S φ W fa) (tJ S φ W fb) σ H Q := by
  obtain ⟨ρ, F, z, s, e1, o⟩ := h
  obtain ⟨r1, e2, o2⟩ := OG.seq e1 o
  refine ⟨ρ, F, r1, s, e2, o2.imp fun x ρ1 F1 H1 s1 m1 ⟨r2, e3, o3⟩ v hv => ?_⟩
  obtain ⟨r3, e4, o4⟩ := OG.seq e3 o3
  refine ⟨ρ1, F1, r3, s1, e4, o4.imp fun y ρ2 F2 H2 s2 m2 ⟨r4, e5, o5⟩ w hw => ?_⟩
  dsimp only at e5
  cases q : op x y with
  | none => rw [q] at e5; cases e5
  | some z =>
    rw [q] at e5
    cases e5
    exact h2 F2 H2 x y z v w Q s2.same (Rep.mono m2 _ _ hv) hw q fun u F' H' g ru => o5 F' H' (s2.grow g) g.f u ru
theorem je_op {o : Operator} {op : PV → PV → Option PV} (ho : Op2 X S (binaryOp o) op) (ha : JE X S φ W a fa) (hb : JE X S φ W b fb) : JE X S φ W (.BinOp a o b pos) (eOp op fa fb) := by
  obtain ⟨r, h1, h2⟩ := ho
  exact (pe_op h1 ha hb).imp fun σ H Q h => two h2 h
theorem je_cmp {o : CmpOp} {op : PV → PV → Option PV} (ho : Op2 X S (compareOp o) op) (ha : JE X S φ W a fa) (hb : JE X S φ W b fb) (hm : behindInMarks o b = false) : JE X S φ W (.Compare a [o] [b] pos) (eOp op fa fb) := by
  obtain ⟨r, h1, h2⟩ := ho
  exact (pe_cmpR h1 ha hb hm).imp fun σ H Q h => two h2 h
/-- a value that must be a truth value -/
def eBl (f : SE) : SM Bool := f.bind fun x => fun ρ => match x with
  | .bl b => some (.ok b, ρ)
  | _ => none
theorem test_of {t : TE} {σ : L2.St} {H : Hp} {Q : Bool → Hp → Prop} (i : ∀ σ H Q, tJ S φ W f σ H Q → t σ H Q) (h : tT S φ W (eBl f) σ H Q) : tTest t σ H Q := by
  obtain ⟨ρ, F, z, s, e1, o⟩ := h
  obtain ⟨r1, e2, o2⟩ := OG.seq e1 o
  refine i _ _ _ ⟨ρ, F, r1, s, e2, o2.imp fun x ρ1 F1 H1 s1 m1 ⟨r2, e3, o3⟩ v hv => ?_⟩
  cases x with
  | bl k =>
    cases e3
    have hv : v = .bl k := hv
    exact ⟨k, hv, o3 F1 H1 s1 (Same.refl _)⟩
  | _ => cases e3
theorem jt_cmp {o : CmpOp} {op : PV → PV → Option PV} (ho : Op2 X S (compareOp o) op) (ha : JE X S φ W a fa) (hb : JE X S φ W b fb) (hm : behindInMarks o b = false) : JT X S φ W (.Compare a [o] [b] pos) (eBl (eOp op fa fb)) := by
  obtain ⟨r, h1, h2⟩ := ho
  exact (pt_cmpR h1 ha hb hm).imp fun σ H Q h => test_of (fun σ H Q h => two h2 h) h
theorem jt_val (h : JE X S φ W e f) (he : ∀ whole, isTrue e X.env whole = (do let v ← whole; standAt e.pos; holding [v] (truthy v)) := by intro _; rfl) : JT X S φ W e (eBl f) :=
  (pt_val h he).imp fun σ H Q h => test_of (fun σ H Q h => h) h

def tAndM (f g : SM Bool) : SM Bool := f.bind fun b => if b = true then g else fun ρ => some (.ok false, ρ)
def tOrM (f g : SM Bool) : SM Bool := f.bind fun b => if b = true then fun ρ => some (.ok true, ρ) else g
def tNotM (f : SM Bool) : SM Bool := f.bind fun b => fun ρ => some (.ok (!b), ρ)
variable {rest : List Expr} {g h : SM Bool}
theorem JT.or1 (ha : JT X S φ W a g) : JW X S φ W (.BoolOp .Or [a] pos) g := pw_or1 ha
theorem JT.and (ha : JT X S φ W a g) (hb : JW X S φ W (.BoolOp .And (b :: rest) pos) h) : JW X S φ W (.BoolOp .And (a :: b :: rest) pos) (tAndM g h) := (pw_and ha hb).imp fun σ H Q ⟨ρ, F, z, s, e1, o⟩ => by
  obtain ⟨r1, e2, o2⟩ := OG.seq e1 o
  refine ⟨ρ, F, r1, s, e2, o2.imp fun k ρ1 F1 H1 s1 m1 ⟨r2, e3, o3⟩ => ?_⟩
  cases k with
  | true => exact iteT ⟨ρ1, F1, r2, s1, e3, o3⟩
  | false =>
    cases e3
    exact iteF (o3 F1 H1 s1 (Same.refl _))
theorem JT.or (ha : JT X S φ W a g) (hb : JW X S φ W (.BoolOp .Or (b :: rest) pos) h) : JW X S φ W (.BoolOp .Or (a :: b :: rest) pos) (tOrM g h) := (pw_or ha hb).imp fun σ H Q ⟨ρ, F, z, s, e1, o⟩ => by
  obtain ⟨r1, e2, o2⟩ := OG.seq e1 o
  refine ⟨ρ, F, r1, s, e2, o2.imp fun k ρ1 F1 H1 s1 m1 ⟨r2, e3, o3⟩ => ?_⟩
  cases k with
  | false => exact iteF ⟨ρ1, F1, r2, s1, e3, o3⟩
  | true =>
    cases e3
    exact iteT (o3 F1 H1 s1 (Same.refl _))
theorem jt_w (h : JW X S φ W e g) : JT X S φ W e g := PW.pt h
theorem jt_not (ha : JT X S φ W a g) : JT X S φ W (.UnaryOp .Not a pos) (tNotM g) := (pt_not ha).imp fun σ H Q ⟨ρ, F, z, s, e1, o⟩ => by
  obtain ⟨r1, e2, o2⟩ := OG.seq e1 o
  refine ⟨ρ, F, r1, s, e2, o2.imp fun k ρ1 F1 H1 s1 m1 ⟨r2, e3, o3⟩ => ?_⟩
  cases e3
  exact o3 F1 H1 s1 (Same.refl _)
/-- as values -/
def eAnd (f g : SE) : SE := f.bind fun x => match x with
  | .bl true => g
  | .bl false => fun ρ => some (.ok (.bl false), ρ)
  | _ => fun _ => none
def eOr (f g : SE) : SE := f.bind fun x => match x with
  | .bl false => g
  | .bl true => fun ρ => some (.ok (.bl true), ρ)
  | _ => fun _ => none
def eNot (f : SE) : SE := f.bind fun x => match x with
  | .bl b => fun ρ => some (.ok (.bl (!b)), ρ)
  | _ => fun _ => none
theorem je_one {op : BoolOp} (h : JE X S φ W a fa) : JE X S φ W (.BoolOp op [a] pos) fa := pe_one h
theorem je_and (ha : JE X S φ W a fa) (hb : JE X S φ W (.BoolOp .And (b :: rest) pos) fb) : JE X S φ W (.BoolOp .And (a :: b :: rest) pos) (eAnd fa fb) := (pe_and ha hb).imp fun σ H Q ⟨ρ, F, z, s, e1, o⟩ => by
  obtain ⟨r1, e2, o2⟩ := OG.seq e1 o
  refine ⟨ρ, F, r1, s, e2, o2.imp fun x ρ1 F1 H1 s1 m1 ⟨r2, e3, o3⟩ v hv => ?_⟩
  cases x with
  | bl k =>
    have hv : v = .bl k := hv
    refine ⟨k, hv, ?_⟩
    cases k with
    | true => exact iteT ⟨ρ1, F1, r2, s1, e3, o3⟩
    | false =>
      cases e3
      exact iteF (o3 F1 H1 s1 (Same.refl _) _ rfl)
  | _ => cases e3
theorem je_not (ha : JE X S φ W a fa) : JE X S φ W (.UnaryOp .Not a pos) (eNot fa) := (pe_not ha).imp fun σ H Q ⟨ρ, F, z, s, e1, o⟩ => by
  obtain ⟨r1, e2, o2⟩ := OG.seq e1 o
  refine ⟨ρ, F, r1, s, e2, o2.imp fun x ρ1 F1 H1 s1 m1 ⟨r2, e3, o3⟩ v hv => ?_⟩
  cases x with
  | bl k =>
    have hv : v = .bl k := hv
    cases e3
    exact ⟨k, hv, o3 F1 H1 s1 (Same.refl _) _ rfl⟩
  | _ => cases e3
def eIf (t : SM Bool) (f g : SE) : SE := t.bind fun b => if b = true then f else g
end
end Y


namespace L2
open PySem PySem.Spec
theorem PS.imp {X : Cx} {e : Stmt} {t t' : TS} (h : PS X e t) (i : ∀ D σ H, t' D σ H → t D σ H) : PS X e t' := ⟨fun pins s σ H D I q => h.run pins s σ H D I (i D σ H q)⟩
theorem PSs.imp {X : Cx} {e : List Stmt} {t t' : TS} (h : PSs X e t) (i : ∀ D σ H, t' D σ H → t D σ H) : PSs X e t' := ⟨fun pins s σ H D I q => h.run pins s σ H D I (i D σ H q)⟩
theorem PG.imp {X : Cx} {e : Expr} {t t' : TG} (h : PG X e t) (i : ∀ v σ H Q, t' v σ H Q → t v σ H Q) : PG X e t' := ⟨fun pins s σ H v u Q I r q => h.run pins s σ H v u Q I r (i v σ H Q q)⟩
theorem PGs.imp {X : Cx} {e : List Expr} {t t' : TGs} (h : PGs X e t) (i : ∀ v σ H Q, t' v σ H Q → t v σ H Q) : PGs X e t' := ⟨fun pins s σ H v u Q I r q => h.run pins s σ H v u Q I r (i v σ H Q q)⟩
end L2
namespace Y
open PySem PySem.Spec L2

inductive Fl where
  | nx | rt (s : Sl) | bk | ct | ex (c : Cid)
abbrev SS := Rh → Option (Fl × Rh)

section
variable (S : Sg) (φ : Fr) (W : WX)
/-- a tuple one of whose items is a new object that nobody else holds -/
def TwR (F H : Hp) (nw : Addr → Prop) : PV → V → Prop
  | .tup [.tup xs, .int j, y], v => ∃ q, Rep S F (.tup (xs.set j.toNat (.xad q))) v ∧ nw q ∧ Top S F H q y
  | _, _ => False
/-- what a def gives back: a frozen value, or a new object -/
def RtV (ρ : Rh) (F : Hp) (σ : L2.St) (H : Hp) : Sl → V → Prop
  | .pu x, v => Rep S F x v
  | .ow x, v => ∃ p, v = .ref p ∧ Nw φ ρ F σ p ∧ Top S F H p x
  | .io x, v => TwR S F H (fun q => Nw φ ρ F σ q) x v
  | _, _ => False
def OS (F : Hp) (D : Ends) : Fl × Rh → Prop
  | (.nx, ρ') => ∀ F' σ' H', Stt S φ ρ' F' σ' H' → Same F F' → D.nx σ' H'
  | (.rt sl, ρ') => ∀ v F' σ' H', Stt S φ ρ' F' σ' H' → Same F F' → RtV S φ ρ' F' σ' H' sl v → D.rt v H'
  | (.bk, ρ') => ∀ F' σ' H', Stt S φ ρ' F' σ' H' → Same F F' → D.bk σ' H'
  | (.ct, ρ') => ∀ F' σ' H', Stt S φ ρ' F' σ' H' → Same F F' → D.ct σ' H'
  | (.ex c, ρ') => ∀ F' σ' H', Stt S φ ρ' F' σ' H' → Same F F' → W (.ref (S.ca c)) none σ' H'
def tS (f : SS) : TS := fun D σ H => ∃ ρ F r, Stt S φ ρ F σ H ∧ f ρ = some r ∧ OS S φ W F D r
end
theorem TwR.imp {S : Sg} {F H : Hp} {nw nw' : Addr → Prop} (h : ∀ q, nw q → nw' q) {x : PV} {v : V} (t : TwR S F H nw x v) : TwR S F H nw' x v := by
  unfold TwR at t ⊢
  split at t
  · obtain ⟨q, h1, h2, h3⟩ := t
    exact ⟨q, h1, h q h2, h3⟩
  · exact t.elim
theorem OS.up {S : Sg} {φ : Fr} {W : WX} {F F1 : Hp} {D : Ends} {r : Fl × Rh} (o : OS S φ W F D r) (e : Same F F1) : OS S φ W F1 D r := by
  obtain ⟨a, ρ'⟩ := r
  cases a with
  | nx => exact fun F' σ' H' s f => o F' σ' H' s (e.trans f)
  | bk => exact fun F' σ' H' s f => o F' σ' H' s (e.trans f)
  | ct => exact fun F' σ' H' s f => o F' σ' H' s (e.trans f)
  | rt x => exact fun v F' σ' H' s f => o v F' σ' H' s (e.trans f)
  | ex c => exact fun F' σ' H' s f => o F' σ' H' s (e.trans f)
abbrev JS (X : Cx) (S : Sg) (φ : Fr) (W : WX) (e : Stmt) (f : SS) : Prop := PS X e (tS S φ W f)
abbrev JSs (X : Cx) (S : Sg) (φ : Fr) (W : WX) (e : List Stmt) (f : SS) : Prop := PSs X e (tS S φ W f)

def sSeq (f g : SS) : SS := fun ρ => match f ρ with
  | some (.nx, ρ') => g ρ'
  | r => r
def sNx : SS := fun ρ => some (.nx, ρ)
def sBk : SS := fun ρ => some (.bk, ρ)
def sCt : SS := fun ρ => some (.ct, ρ)
/-- an expression's end, then a statement's -/
def sE {α : Type} (f : SM α) (k : α → SS) : SS := fun ρ => match f ρ with
  | some (.ok a, ρ') => k a ρ'
  | some (.ex c, ρ') => some (.ex c, ρ')
  | none => none

section
variable {X : Cx} {S : Sg} {φ : Fr} {W : WX} {st : Stmt} {rest sts : List Stmt} {e a b c : Expr} {f g : SS} {fe fa fb : SE} {t : SM Bool} {pos : Pos}
theorem OS.seqE {α : Type} {m : SM α} {k : α → SS} {ρ : Rh} {F : Hp} {σ : L2.St} {D : Ends} {r : Fl × Rh} (e : sE m k ρ = some r) (o : OS S φ W F D r) :
    ∃ r1, m ρ = some r1 ∧ OG S φ W F σ (fun a ρ1 F1 H1 => ∃ r, k a ρ1 = some r ∧ OS S φ W F1 D r) r1 := by
  unfold sE at e
  cases q : m ρ with
  | none => rw [q] at e; cases e
  | some z =>
    obtain ⟨a, ρ1⟩ := z
    rw [q] at e
    cases a with
    | ok a => exact ⟨_, rfl, fun F' H' s f => ⟨r, e, o.up f⟩⟩
    | ex c =>
      cases e
      exact ⟨_, rfl, fun F' H' s f => o F' σ H' s f⟩

theorem js_nil : JSs X S φ W [] sNx := pss_nil.imp fun D σ H ⟨ρ, F, r, s, e1, o⟩ => by
  cases e1
  exact o F σ H s (Same.refl _)
theorem js_cons (h1 : JS X S φ W st f) (h2 : JSs X S φ W rest g) : JSs X S φ W (st :: rest) (sSeq f g) := (pss_cons h1 h2).imp fun D σ H ⟨ρ, F, r, s, e1, o⟩ => by
  unfold sSeq at e1
  cases q : f ρ with
  | none => rw [q] at e1; cases e1
  | some z =>
    obtain ⟨a, ρ1⟩ := z
    rw [q] at e1
    refine ⟨ρ, F, _, s, q, ?_⟩
    cases a with
    | nx => exact fun F' σ' H' s' m => ⟨ρ1, F', r, s', e1, o.up m⟩
    | bk => cases e1; exact o
    | ct => cases e1; exact o
    | rt x => cases e1; exact o
    | ex c => cases e1; exact o
theorem js_one (h1 : JS X S φ W st f) : JSs X S φ W [st] f := pss_one h1
/-- an expression whose value is dropped -/
def sDo (fe : SE) : SS := sE fe fun _ ρ => some (.nx, ρ)
theorem js_do (he : JE X S φ W e fe) (hs : swapsWith e none pos.line X.env = pure false := by rfl) : JS X S φ W (.Expr e pos) (sDo fe) := (ps_expr he hs).imp fun D σ H ⟨ρ, F, r, s, e1, o⟩ => by
  obtain ⟨r1, e2, o2⟩ := OS.seqE (σ := σ) e1 o
  refine ⟨ρ, F, r1, s, e2, o2.imp fun x ρ1 F1 H1 s1 m1 ⟨r2, e3, o3⟩ v hv => ?_⟩
  cases e3
  exact o3 F1 σ H1 s1 (Same.refl _)
def sRet (fe : SE) : SS := sE fe fun x ρ => some (.rt (.pu x), ρ)
theorem js_ret (he : JE X S φ W e fe) : JS X S φ W (.Return (some e) pos) (sRet fe) := (ps_ret he).imp fun D σ H ⟨ρ, F, r, s, e1, o⟩ => by
  obtain ⟨r1, e2, o2⟩ := OS.seqE (σ := σ) e1 o
  refine ⟨ρ, F, r1, s, e2, o2.imp fun x ρ1 F1 H1 s1 m1 ⟨r2, e3, o3⟩ v hv => ?_⟩
  cases e3
  exact o3 v F1 σ H1 s1 (Same.refl _) hv
def sRetN : SS := fun ρ => some (.rt (.pu .non), ρ)
/-- a new object is given back -/
def sRetW (fe : SE) : SS := sE fe fun x ρ => some (.rt (.ow x), ρ)
theorem js_retW (he : JN X S φ W e fe) : JS X S φ W (.Return (some e) pos) (sRetW fe) := (ps_ret he).imp fun D σ H ⟨ρ, F, r, s, e1, o⟩ => by
  obtain ⟨r1, e2, o2⟩ := OS.seqE (σ := σ) e1 o
  refine ⟨ρ, F, r1, s, e2, o2.imp fun x ρ1 F1 H1 s1 m1 ⟨r2, e3, o3⟩ p nw tp => ?_⟩
  cases e3
  exact o3 _ F1 σ H1 s1 (Same.refl _) ⟨p, rfl, nw, tp⟩
/-- .. that a name holds -/
def sRetV (i : Nat) : SS := fun ρ => match ρ[i]? with
  | some (.ow x) => some (.rt (.ow x), ρ.set i .un)
  | _ => none
def sIf (t : SM Bool) (f g : SS) : SS := sE t fun b => if b = true then f else g
theorem js_if (hc : JT X S φ W c t) (ha : JSs X S φ W sts f) (hb : JSs X S φ W rest g) : JS X S φ W (.If c sts rest pos) (sIf t f g) := (ps_if hc ha hb).imp fun D σ H ⟨ρ, F, r, s, e1, o⟩ => by
  obtain ⟨r1, e2, o2⟩ := OS.seqE (σ := σ) e1 o
  refine ⟨ρ, F, r1, s, e2, o2.imp fun k ρ1 F1 H1 s1 m1 ⟨r2, e3, o3⟩ => ?_⟩
  cases k with
  | true => exact iteT ⟨ρ1, F1, r2, s1, e3, o3⟩
  | false => exact iteF ⟨ρ1, F1, r2, s1, e3, o3⟩

/-- a target takes a frozen value -/
abbrev GM := PV → Rh → Option Rh
/-- only the slots at is have changed -/
def Chg (is : List Nat) (σ σ' : L2.St) : Prop := σ'.length = σ.length ∧ ∀ j, j ∉ is → σ'[j]? = σ[j]?
theorem Chg.refl {is : List Nat} {σ : L2.St} : Chg is σ σ := ⟨rfl, fun _ _ => rfl⟩
theorem Chg.trans {is : List Nat} {σ σ1 σ2 : L2.St} (a : Chg is σ σ1) (b : Chg is σ1 σ2) : Chg is σ σ2 := ⟨b.1.trans a.1, fun j h => (b.2 j h).trans (a.2 j h)⟩
theorem Chg.mono {is js : List Nat} {σ σ1 : L2.St} (a : Chg is σ σ1) (h : ∀ i, i ∈ is → i ∈ js) : Chg js σ σ1 := ⟨a.1, fun j q => a.2 j fun z => q (h j z)⟩
def gJ (S : Sg) (φ : Fr) (g : GM) (is : List Nat) : TG := fun v σ H Q => ∃ x ρ F ρ', Stt S φ ρ F σ H ∧ Rep S F x v ∧ g x ρ = some ρ' ∧ ∀ σ', Stt S φ ρ' F σ' H → Chg is σ σ' → Q σ' H
abbrev JG (X : Cx) (S : Sg) (φ : Fr) (e : Expr) (g : GM) (is : List Nat) : Prop := PG X e (gJ S φ g is)
def gN (i : Nat) : GM := fun x ρ => match ρ[i]? with
  | some (.io _) => none
  | some _ => some (ρ.set i (.pu x))
  | none => none
theorem jg_n {i : Nat} {x : Str} (hN : X.N.Nodup) (hi : X.N[i]? = some x := by rfl) (hx : Loc X.env.scope x := by first | exact Or.inl rfl | exact Or.inr rfl) (hf : X.fn x = true ∨ X.env.scope.names.lookup x = some .local := by first | exact .inl rfl | exact .inr rfl | assumption) :
    JG X S φ (.Name x pos) (gN i) [i] := L2.PG.imp (pg_name hN hi hx hf) fun v σ H Q ⟨x, ρ, F, ρ', s, rx, e, q⟩ => by
  unfold gN at e
  split at e
  · cases e
  · cases e
    exact q _ (s.setPu rx) ⟨by simp, fun j h => List.getElem?_set_ne fun z => h (by rw [z]; exact List.mem_singleton.mpr rfl)⟩
  · cases e
/-- (a, b, ..) = a tuple -/
def gJs (S : Sg) (φ : Fr) (g : List PV → Rh → Option Rh) (is : List Nat) : TGs := fun vs σ H Q => ∃ xs ρ F ρ', Stt S φ ρ F σ H ∧ Reps S F xs vs ∧ g xs ρ = some ρ' ∧ ∀ σ', Stt S φ ρ' F σ' H → Chg is σ σ' → Q σ' H
abbrev JGs (X : Cx) (S : Sg) (φ : Fr) (es : List Expr) (g : List PV → Rh → Option Rh) (is : List Nat) : Prop := PGs X es (gJs S φ g is)
def gsNil : List PV → Rh → Option Rh := fun xs ρ => match xs with
  | [] => some ρ
  | _ => none
def gsCons (g : GM) (gs : List PV → Rh → Option Rh) : List PV → Rh → Option Rh := fun xs ρ => match xs with
  | [] => none
  | x :: r => match g x ρ with
    | some ρ' => gs r ρ'
    | none => none
theorem jgs_nil : JGs X S φ [] gsNil [] := L2.PGs.imp pgs_nil fun vs σ H Q ⟨xs, ρ, F, ρ', s, rx, e, q⟩ => by
  cases xs with
  | nil =>
    cases e
    exact ⟨rx, q _ s Chg.refl⟩
  | cons _ _ => cases e
theorem jgs_cons {es : List Expr} {g : GM} {gs : List PV → Rh → Option Rh} {is js : List Nat} (h1 : JG X S φ e g is) (h2 : JGs X S φ es gs js) (hs : (assignEach (e :: es) X.env).map (·.2) = assign e X.env :: (assignEach es X.env).map (·.2) := by rfl) : JGs X S φ (e :: es) (gsCons g gs) (is ++ js) :=
  L2.PGs.imp (pgs_cons h1 h2 hs) fun vs σ H Q ⟨xs, ρ, F, ρ', s, rx, e, q⟩ => by
    cases xs with
    | nil => cases e
    | cons x r =>
      obtain ⟨v, vr, rfl, h3, h4⟩ := rx
      unfold gsCons at e
      dsimp only at e
      split at e
      · rename_i ρ1 q1
        exact ⟨v, vr, rfl, x, ρ, F, ρ1, s, h3, q1, fun σ1 s1 c1 => ⟨r, ρ1, F, ρ', s1, h4, e, fun σ2 s2 c2 => q σ2 s2 ((c1.mono fun _ z => List.mem_append_left _ z).trans (c2.mono fun _ z => List.mem_append_right _ z))⟩⟩
      · cases e
def gT (gs : List PV → Rh → Option Rh) : GM := fun x ρ => match x with
  | .tup xs => gs xs ρ
  | _ => none
theorem jg_t {es : List Expr} {k n : Nat} {gs : List PV → Rh → Option Rh} {is : List Nat} (hc : X.calm = true) (hK : X.K = S.K) (h : JGs X S φ es gs is) (hl : ∀ xs ρ ρ', gs xs ρ = some ρ' → xs.length = n) (hn : (assignEach es X.env).length = n := by rfl)
    (hst : (assignEach es X.env).findIdx? (·.1) = none := by rfl) : JG X S φ (.Tuple es k pos) (gT gs) is := L2.PG.imp (pg_tup hc h hn hst) fun v σ H Q ⟨x, ρ, F, ρ', s, rx, e, q⟩ => by
  cases x with
  | tup xs =>
    obtain ⟨a, vs, rfl, h1, h2⟩ := rx
    refine ⟨a, vs, rfl, by rw [hK]; exact SqT.same s.same h1, ?_, xs, ρ, F, ρ', s, h2, e, q⟩
    rw [← Reps.length h2]
    exact hl xs ρ ρ' e
  | _ => cases e
theorem gs2_len {g1 g2 : GM} : ∀ xs ρ ρ', gsCons g1 (gsCons g2 gsNil) xs ρ = some ρ' → xs.length = 2 := fun xs ρ ρ' e => by
  cases xs with
  | nil => cases e
  | cons x r =>
    unfold gsCons at e
    dsimp only at e
    split at e
    · cases r with
      | nil => cases e
      | cons y r =>
        dsimp only at e
        split at e
        · cases r with
          | nil => rfl
          | cons _ _ => cases e
        · cases e
    · cases e
def sSet (g : GM) (fe : SE) : SS := sE fe fun x ρ => match g x ρ with
  | some ρ' => some (.nx, ρ')
  | none => none
/-- name = e -/
theorem js_set (i : Nat) {x : Str} {pos' : Pos} (hN : X.N.Nodup) (he : JE X S φ W e fe) (hi : X.N[i]? = some x := by rfl) (hx : Loc X.env.scope x := by first | exact Or.inl rfl | exact Or.inr rfl) (hs : swapsWith e (some (.Name x pos')) pos.line X.env = pure false := by rfl)
    (hf : X.fn x = true ∨ X.env.scope.names.lookup x = some .local := by first | exact .inl rfl | exact .inr rfl | assumption) : JS X S φ W (.Assign [.Name x pos'] e pos) (sSet (gN i) fe) := (ps_set hN hi hx he hs hf).imp fun D σ H ⟨ρ, F, r, s, e1, o⟩ => by
  obtain ⟨r1, e2, o2⟩ := OS.seqE (σ := σ) e1 o
  refine ⟨ρ, F, r1, s, e2, o2.imp fun x ρ1 F1 H1 s1 m1 ⟨r2, e3, o3⟩ v hv => ?_⟩
  split at e3
  · rename_i ρ2 q
    cases e3
    unfold gN at q
    split at q
    · cases q
    · cases q
      exact o3 F1 _ H1 (s1.setPu hv) (Same.refl _)
    · cases q
  · cases e3
/-- name = a new object, which the name holds -/
def gW (i : Nat) : GM := fun x ρ => match ρ[i]? with
  | some (.io _) => none
  | some _ => some (ρ.set i (.ow x))
  | none => none
theorem js_setW (i : Nat) {x : Str} {pos' : Pos} (hN : X.N.Nodup) (he : JN X S φ W e fe) (hi : X.N[i]? = some x := by rfl) (hx : Loc X.env.scope x := by first | exact Or.inl rfl | exact Or.inr rfl) (hs : swapsWith e (some (.Name x pos')) pos.line X.env = pure false := by rfl)
    (hf : X.fn x = true ∨ X.env.scope.names.lookup x = some .local := by first | exact .inl rfl | exact .inr rfl | assumption) : JS X S φ W (.Assign [.Name x pos'] e pos) (sSet (gW i) fe) := (ps_set hN hi hx he hs hf).imp fun D σ H ⟨ρ, F, r, s, e1, o⟩ => by
  obtain ⟨r1, e2, o2⟩ := OS.seqE (σ := σ) e1 o
  refine ⟨ρ, F, r1, s, e2, o2.imp fun x ρ1 F1 H1 s1 m1 ⟨r2, e3, o3⟩ p nw tp => ?_⟩
  split at e3
  · rename_i ρ2 q
    cases e3
    unfold gW at q
    split at q
    · cases q
    · cases q
      exact o3 F1 _ H1 (s1.setOw nw.f nw.h tp nw.no) (Same.refl _)
    · cases q
  · cases e3
/-- any target = e -/
theorem js_asg {tg : Expr} {gm : GM} {is : List Nat} (he : JE X S φ W e fe) (hg : JG X S φ tg gm is) (hs : swapsWithSole [tg] e pos.line X.env = pure false := by rfl) (hw : swappedStores [tg] e X.env = pure none := by rfl)
    (h1 : (assignEach [tg] X.env).map (·.2) = [assign tg X.env] := by rfl) : JS X S φ W (.Assign [tg] e pos) (sSet gm fe) := (ps_asg he hg hs hw h1).imp fun D σ H ⟨ρ, F, r, s, e1, o⟩ => by
  obtain ⟨r1, e2, o2⟩ := OS.seqE (σ := σ) e1 o
  refine ⟨ρ, F, r1, s, e2, o2.imp fun x ρ1 F1 H1 s1 m1 ⟨r2, e3, o3⟩ v hv => ?_⟩
  split at e3
  · rename_i ρ2 q
    cases e3
    exact ⟨x, ρ1, F1, ρ2, s1, hv, q, fun σ' s' _ => o3 F1 σ' H1 s' (Same.refl _)⟩
  · cases e3

def whileL (t : SM Bool) (b : SS) : Nat → SS
  | 0 => fun _ => none
  | n + 1 => fun ρ => match t ρ with
    | some (.ok true, ρ1) => (match b ρ1 with
      | some (.nx, ρ2) => whileL t b n ρ2
      | some (.ct, ρ2) => whileL t b n ρ2
      | some (.bk, ρ2) => some (.nx, ρ2)
      | r => r)
    | some (.ok false, ρ1) => some (.nx, ρ1)
    | some (.ex c, ρ1) => some (.ex c, ρ1)
    | none => none
/-- with so many turns at most -/
def sWhile (n : Rh → Nat) (t : SM Bool) (b : SS) : SS := fun ρ => whileL t b (n ρ) ρ
theorem js_while (n : Rh → Nat) (hp : PassesOwn (model X.prog X.w) X.A X.env X.xe) (hc : JT X S φ W c t) (hb : JSs X S φ W sts f) : JS X S φ W (.While c sts [] pos) (sWhile n t f) := (ps_while hp hc hb).imp fun D σ H ⟨ρ, F, r, s, e1, o⟩ => by
  refine ⟨fun m σ H => ∃ ρ F r, Stt S φ ρ F σ H ∧ whileL t f m ρ = some r ∧ OS S φ W F D r, ⟨_, ρ, F, r, s, e1, o⟩, ?_⟩
  rintro m σ H ⟨ρ, F, r, s, e1, o⟩
  cases m with
  | zero => cases e1
  | succ m =>
    unfold whileL at e1
    cases q : t ρ with
    | none => rw [q] at e1; cases e1
    | some z =>
      obtain ⟨k, ρ1⟩ := z
      rw [q] at e1
      refine ⟨ρ, F, _, s, q, ?_⟩
      cases k with
      | ex c =>
        cases e1
        exact fun F' H' s' m' => o F' σ H' s' m'
      | ok k =>
        intro F1 H1 s1 m1
        cases k with
        | false =>
          cases e1
          exact iteF (o F1 σ H1 s1 m1)
        | true =>
          refine iteT ⟨fun σ H => ∃ ρ F r, Stt S φ ρ F σ H ∧ whileL t f m ρ = some r ∧ OS S φ W F D r, fun σ' H' h => ⟨m, Nat.lt_succ_self m, h⟩, ?_⟩
          dsimp only at e1
          cases q2 : f ρ1 with
          | none => rw [q2] at e1; cases e1
          | some z =>
            obtain ⟨k, ρ2⟩ := z
            rw [q2] at e1
            refine ⟨ρ1, F1, _, s1, q2, ?_⟩
            cases k with
            | nx => exact fun F' σ' H' s' m' => ⟨ρ2, F', r, s', e1, o.up (m1.trans m')⟩
            | ct => exact fun F' σ' H' s' m' => ⟨ρ2, F', r, s', e1, o.up (m1.trans m')⟩
            | bk => cases e1; exact fun F' σ' H' s' m' => o F' σ' H' s' (m1.trans m')
            | rt x => cases e1; exact fun v F' σ' H' s' m' => o v F' σ' H' s' (m1.trans m')
            | ex c => cases e1; exact fun F' σ' H' s' m' => o F' σ' H' s' (m1.trans m')

/-- J walks the values xs, as they are in the frozen heap F0 -/
structure Wk (S : Sg) (F0 : Hp) (xs : List PV) (J : It) : Prop where
  go : ∀ i H, Same F0 H → i < xs.length → J.go i H
  stop : ∀ i H, Same F0 H → xs.length ≤ i → J.stop i H
  yld : ∀ i F H v H', Same F0 F → Same F H → i < xs.length → J.yld i H v H' → ∃ x F', xs[i]? = some x ∧ Gw F H F' H' ∧ Rep S F' x v
def iJ (S : Sg) (φ : Fr) (W : WX) (f : SM (List PV)) : TI := fun σ H R => ∃ ρ F r, Stt S φ ρ F σ H ∧ f ρ = some r ∧ OG S φ W F σ (fun xs ρ' F' H' => ∀ J, Wk S F' xs J → R J H') r
abbrev JI (X : Cx) (S : Sg) (φ : Fr) (W : WX) (tg e : Expr) (f : SM (List PV)) : Prop := PI X tg e (iJ S φ W f)
theorem _root_.L2.PI.imp {X : Cx} {tg e : Expr} {t t' : TI} (h : PI X tg e t) (i : ∀ σ H R, t' σ H R → t σ H R) : PI X tg e t' := ⟨fun pins s σ H R I q => h.run pins s σ H R I (i σ H R q)⟩
theorem wk_list {F : Hp} {xs : List PV} {p : Addr} {vs : List V} (h : SqL S.K F p vs) (r : Reps S F xs vs) : Wk S F xs (Itl S.K p) where
  go := fun i H s hi => by
    have hv : i < vs.length := by rw [← r.length]; exact hi
    exact ⟨vs, vs[i], SqL.same s h, by simp [hv]⟩
  stop := fun i H s hi => ⟨vs, SqL.same s h, by rw [← r.length]; exact hi⟩
  yld := fun i F1 H v H' s1 s2 hi ⟨e, q⟩ => by
    subst e
    have hv := q vs (SqL.same (s1.trans s2) h)
    obtain ⟨x, h1, h2⟩ := r.getV hv
    exact ⟨x, F1, h1, Gw.rfl' s2, Rep.mono s1 _ _ h2⟩
/-- over a list -/
def iL (f : SE) : SM (List PV) := f.bind fun x => fun ρ => match x with
  | .lst xs => some (.ok xs, ρ)
  | _ => none
theorem ji_list {tg : Expr} (hK : X.K = S.K) (h : JE X S φ W e fe) : JI X S φ W tg e (iL fe) := (pi_list h).imp fun σ H R ⟨ρ, F, r, s, e1, o⟩ => by
  obtain ⟨r1, e2, o2⟩ := OG.seq e1 o
  refine ⟨ρ, F, r1, s, e2, o2.imp fun x ρ1 F1 H1 s1 m1 ⟨r2, e3, o3⟩ v hv => ?_⟩
  cases x with
  | lst xs =>
    cases e3
    obtain ⟨p, vs, rfl, h1, h2⟩ := hv
    refine ⟨p, rfl, ⟨vs, hK.symm ▸ SqL.same s1.same h1⟩, ?_⟩
    rw [hK]
    exact o3 F1 H1 s1 (Same.refl _) _ (wk_list h1 h2)
  | _ => cases e3
def iTu (f : SE) : SM (List PV) := f.bind fun x => fun ρ => match x with
  | .tup xs => some (.ok xs, ρ)
  | _ => none
def wipe1 (ρ : Rh) (i : Nat) : Rh := match ρ[i]? with
  | some (.io _) => ρ
  | _ => ρ.set i .un
def wipeR (fg : List Nat) (ρ : Rh) : Rh := fg.foldl wipe1 ρ
theorem Stt.wipeR {σ : L2.St} {F H : Hp} : ∀ (fg : List Nat) {ρ : Rh}, Stt S φ ρ F σ H → Stt S φ (Y.wipeR fg ρ) F σ H
  | [], ρ, s => s
  | i :: fg, ρ, s => by
    show Stt S φ (Y.wipeR fg _) F σ H
    refine Stt.wipeR fg ?_
    show Stt S φ (wipe1 ρ i) F σ H
    unfold wipe1
    split
    · exact s
    · exact s.forget
/-- over the values: the target, the body; at the end of a turn the slots fg are forgotten -/
def forL (gm : GM) (b : SS) (fg : List Nat) : List PV → SS
  | [] => fun ρ => some (.nx, ρ)
  | x :: xs => fun ρ => match gm x ρ with
    | none => none
    | some ρ1 => (match b ρ1 with
      | some (.nx, ρ2) => forL gm b fg xs (wipeR fg ρ2)
      | some (.ct, ρ2) => forL gm b fg xs (wipeR fg ρ2)
      | some (.bk, ρ2) => some (.nx, ρ2)
      | r => r)
def sFor (it : SM (List PV)) (gm : GM) (b : SS) (fg : List Nat) : SS := sE it fun xs ρ => forL gm b fg xs (wipeR fg ρ)
theorem for_wk {is : List Nat} {F0 : Hp} {xs : List PV} {J : It} (wk : Wk S F0 xs J) {gm : GM} {fg : List Nat} {D : Ends} {σ : L2.St} {H F : Hp} {ρ : Rh} {r : Fl × Rh} (s : Stt S φ ρ F σ H) (m : Same F0 F) (e : forL gm f fg xs ρ = some r) (o : OS S φ W F D r) :
    ∃ W' : Nat → Nat → L2.St → Hp → Prop, (∃ m, W' 0 m σ H) ∧ ∀ i m σ H, W' i m σ H →
      (J.stop i H ∧ D.nx σ H) ∨ (J.go i H ∧ ∃ N : L2.St → Hp → Prop, (∀ σ' H', N σ' H' → ∃ m', m' < m ∧ W' (i + 1) m' σ' H') ∧ ∀ x H', J.yld i H x H' → gJ S φ gm is x σ H' fun σ2 H2 => tS S φ W f { D with nx := N, ct := N, bk := D.nx } σ2 H2) := by
  let P : Nat → L2.St → Hp → Prop := fun i σ H => i ≤ xs.length ∧ ∃ ρ F r, Stt S φ ρ F σ H ∧ Same F0 F ∧ forL gm f fg (xs.drop i) ρ = some r ∧ OS S φ W F D r
  refine ⟨fun i m σ H => m = xs.length - i ∧ P i σ H, ⟨xs.length, by simp, Nat.zero_le _, ρ, F, r, s, m, e, o⟩, ?_⟩
  rintro i m σ H ⟨rfl, hi, ρ, F, r, s, m, e, o⟩
  by_cases hlt : i < xs.length
  · refine .inr ⟨wk.go i H (m.trans s.same) hlt, P (i + 1), fun σ' H' h => ⟨xs.length - (i + 1), by omega, rfl, h⟩, fun v H' y => ?_⟩
    obtain ⟨x, F', hx, gw, rx⟩ := wk.yld i F H v H' m s.same hlt y
    have ex : xs.drop i = x :: xs.drop (i + 1) := by
      obtain ⟨h1, h2⟩ := List.getElem?_eq_some_iff.mp hx
      rw [List.drop_eq_getElem_cons h1, h2]
    rw [ex] at e
    unfold forL at e
    cases q : gm x ρ with
    | none => rw [q] at e; cases e
    | some ρ1 =>
      rw [q] at e
      refine ⟨x, ρ, F', ρ1, s.grow gw, rx, q, fun σ1 s1 _ => ?_⟩
      dsimp only at e
      cases q2 : f ρ1 with
      | none => rw [q2] at e; cases e
      | some z =>
        obtain ⟨k, ρ2⟩ := z
        rw [q2] at e
        refine ⟨ρ1, F', _, s1, q2, ?_⟩
        cases k with
        | nx => exact fun F2 σ2 H2 s2 m2 => ⟨hlt, _, F2, r, Stt.wipeR fg s2, (m.trans gw.f).trans m2, e, o.up (gw.f.trans m2)⟩
        | ct => exact fun F2 σ2 H2 s2 m2 => ⟨hlt, _, F2, r, Stt.wipeR fg s2, (m.trans gw.f).trans m2, e, o.up (gw.f.trans m2)⟩
        | bk => cases e; exact fun F2 σ2 H2 s2 m2 => o F2 σ2 H2 s2 (gw.f.trans m2)
        | rt x => cases e; exact fun v F2 σ2 H2 s2 m2 => o v F2 σ2 H2 s2 (gw.f.trans m2)
        | ex c => cases e; exact fun F2 σ2 H2 s2 m2 => o F2 σ2 H2 s2 (gw.f.trans m2)
  · have ei : i = xs.length := by omega
    subst ei
    rw [List.drop_length] at e
    cases e
    exact .inl ⟨wk.stop _ H (m.trans s.same) (Nat.le_refl _), o F σ H s (Same.refl _)⟩
theorem js_for (fg : List Nat) {iter tg : Expr} {it : SM (List PV)} {gm : GM} {is : List Nat} (hp : PassesOwn (model X.prog X.w) X.A X.env X.xe) (hc : X.calm = true) (hi : JI X S φ W tg iter it) (hg : JG X S φ tg gm is) (hb : JSs X S φ W sts f)
    (hs : ∀ x, foldedSetIterable iter X.env x = pure x := by intro _; rfl) : JS X S φ W (.For tg iter sts [] pos) (sFor it gm f fg) := (ps_for hp hc hi hg hb hs).imp fun D σ H ⟨ρ, F, r, s, e1, o⟩ => by
  obtain ⟨r1, e2, o2⟩ := OS.seqE (σ := σ) e1 o
  refine ⟨ρ, F, r1, s, e2, o2.imp fun xs ρ1 F1 H1 s1 m1 ⟨r2, e3, o3⟩ J wk => ?_⟩
  exact for_wk wk (Stt.wipeR fg s1) (Same.refl _) e3 o3
end
end Y


namespace Y
open PySem PySem.Spec L2
open PyProof.Rows (envOfC)

/-- what a def does: its arguments (values, objects that it may write), its answer, the arguments behind it -/
abbrev Fn := List Sl → Option (Ou Sl × List Sl)

section
variable (S : Sg)
def ArgR (F H : Hp) : Sl → V → Prop
  | .pu x, v => Rep S F x v
  | .io x, v => ∃ p, v = .ref p ∧ F p = none ∧ Top S F H p x
  | _, _ => False
def ArgsR (F H : Hp) : List Sl → List V → Prop
  | [], vs => vs = []
  | s :: ss, vs => ∃ v r, vs = v :: r ∧ ArgR S F H s v ∧ ArgsR F H ss r
/-- where the objects are that may be written -/
def pinOf : List Sl → List V → List (Option Addr)
  | .io _ :: ss, .ref p :: vs => some p :: pinOf ss vs
  | _ :: ss, _ :: vs => none :: pinOf ss vs
  | _, _ => []
def Apart (pin : List (Option Addr)) : Prop := ∀ (i j : Nat) (p : Addr), pin[i]? = some (some p) → pin[j]? = some (some p) → i = j
/-- behind a call -/
structure Aft (φ : Fr) (F' H' : Hp) (args' : List Sl) : Prop where
  f : Same φ.F F'
  fh : Same F' H'
  k1 : ∀ a o, φ.H a = some o → a ∉ φ.own → H' a = some o
  k2 : ∀ a, φ.H a ≠ none → φ.F a = none → a ∉ φ.own → F' a = none
  io : ∀ (i : Nat) (p : Addr), φ.pin[i]? = some (some p) → ∃ x, args'[i]? = some (.io x) ∧ F' p = none ∧ Top S F' H' p x
def RetR (φ : Fr) (F' H' : Hp) : Sl → V → Prop
  | .pu x, v => Rep S F' x v
  | .ow x, v => ∃ p, v = .ref p ∧ F' p = none ∧ φ.H p = none ∧ Top S F' H' p x
  | .io x, v => TwR S F' H' (fun q => F' q = none ∧ φ.H q = none) x v
  | _, _ => False
def spOf (g : Fn) : Sp := fun vs H Q E => ∃ F args r, Same F H ∧ ArgsR S F H args vs ∧ Apart (pinOf args vs) ∧ g args = some r ∧ (match r with
  | (.ok sl, args') => ∀ v F' H', Aft S ⟨F, H, pinOf args vs⟩ F' H' args' → RetR S ⟨F, H, pinOf args vs⟩ F' H' sl v → Q v H'
  | (.ex c, args') => ∀ F' H', Aft S ⟨F, H, pinOf args vs⟩ F' H' args' → E (.ref (S.ca c)) none H')
end
section
variable {S : Sg} {F H : Hp}
theorem ArgsR.len : ∀ {ss : List Sl} {vs : List V}, ArgsR S F H ss vs → ss.length = vs.length
  | [], vs, h => by
    have h : vs = [] := h
    rw [h] <;> rfl
  | s :: ss, vs, h => by
    obtain ⟨v, r, rfl, _, h3⟩ := h
    have := ArgsR.len h3
    simp [this]
theorem ArgsR.get : ∀ {ss : List Sl} {vs : List V} {i : Nat} {s : Sl}, ArgsR S F H ss vs → ss[i]? = some s → ∃ v, vs[i]? = some v ∧ ArgR S F H s v
  | [], _, _, _, _, e => by simp at e
  | y :: ys, vs, 0, x, h, e => by
    obtain ⟨v, r, rfl, h2, _⟩ := h
    simp at e
    subst e
    exact ⟨v, rfl, h2⟩
  | y :: ys, vs, i + 1, x, h, e => by
    obtain ⟨v, r, rfl, _, h3⟩ := h
    simp at e
    obtain ⟨w, e2, h4⟩ := ArgsR.get h3 e
    exact ⟨w, by simpa using e2, h4⟩
theorem pinOf_get : ∀ {ss : List Sl} {vs : List V} {i : Nat} {p : Addr}, (pinOf ss vs)[i]? = some (some p) → ∃ x, ss[i]? = some (.io x) ∧ vs[i]? = some (.ref p)
  | [], vs, i, p, e => by
    unfold pinOf at e
    simp at e
  | s :: ss, [], i, p, e => by
    unfold pinOf at e
    cases s <;> simp at e
  | s :: ss, v :: vs, 0, p, e => by
    cases s with
    | io x =>
      cases v with
      | ref q =>
        simp [pinOf] at e
        subst e
        exact ⟨x, rfl, rfl⟩
      | _ => simp [pinOf] at e
    | _ => simp [pinOf] at e
  | s :: ss, v :: vs, i + 1, p, e => by
    have e2 : (pinOf ss vs)[i]? = some (some p) := by
      cases s <;> cases v <;> simpa [pinOf] using e
    obtain ⟨x, h1, h2⟩ := pinOf_get e2
    exact ⟨x, by simpa using h1, by simpa using h2⟩
theorem pinOf_io : ∀ {ss : List Sl} {vs : List V} {i : Nat} {p : Addr} {x : PV}, ss[i]? = some (.io x) → vs[i]? = some (.ref p) → ss.length = vs.length → (pinOf ss vs)[i]? = some (some p)
  | [], vs, i, p, x, e, _, _ => by simp at e
  | s :: ss, [], i, p, x, _, e, _ => by simp at e
  | s :: ss, v :: vs, 0, p, x, e1, e2, _ => by
    simp at e1 e2
    subst e1 e2
    rfl
  | s :: ss, v :: vs, i + 1, p, x, e1, e2, hl => by
    have q := pinOf_io (ss := ss) (vs := vs) (i := i) (p := p) (x := x) (by simpa using e1) (by simpa using e2) (by simpa using hl)
    cases s <;> cases v <;> simpa [pinOf] using q
end

/-- the objects that were handed in to be written are still held -/
def chk : List Sl → Rh → Bool
  | [], _ => true
  | .io _ :: as, .io _ :: bs => chk as bs
  | .io _ :: _, _ => false
  | _ :: as, _ :: bs => chk as bs
  | _ :: _, [] => false
theorem chk_io : ∀ {as : List Sl} {bs : Rh} {i : Nat} {x : PV}, chk as bs = true → as[i]? = some (.io x) → ∃ y, bs[i]? = some (.io y) ∧ i < as.length
  | [], _, _, _, _, e => by simp at e
  | a :: as, bs, 0, x, h, e => by
    simp at e
    subst e
    cases bs with
    | nil => cases h
    | cons b bs => cases b <;> first | cases h | exact ⟨_, rfl, by simp⟩
  | a :: as, bs, i + 1, x, h, e => by
    cases bs with
    | nil => cases a <;> cases h
    | cons b bs =>
      have h2 : chk as bs = true := by
        cases a with
        | io z => cases b <;> first | cases h | exact h
        | _ => exact h
      obtain ⟨y, q, l⟩ := chk_io h2 (by simpa using e)
      exact ⟨y, by simpa using q, by simpa using l⟩
/-- what is left of the arguments: the objects that were written, the others as they were -/
def outs : List Sl → Rh → List Sl
  | [], _ => []
  | .io x :: as, bs => bs.head?.getD (.io x) :: outs as bs.tail
  | a :: as, bs => a :: outs as bs.tail
theorem outs_io : ∀ {as : List Sl} {bs : Rh} {i : Nat} {x : PV} {b : Sl}, as[i]? = some (.io x) → bs[i]? = some b → (outs as bs)[i]? = some b
  | [], _, _, _, _, e, _ => by simp at e
  | a :: as, bs, 0, x, b, e, q => by
    simp at e
    subst e
    cases bs with
    | nil => simp at q
    | cons c bs => simpa [outs] using q
  | a :: as, bs, i + 1, x, b, e, q => by
    cases bs with
    | nil => simp at q
    | cons c bs =>
      have h := outs_io (as := as) (bs := bs) (i := i) (by simpa using e) (by simpa using q)
      cases a <;> simpa [outs] using h
/-- m parameters, n local names besides -/
def fnOf (m n : Nat) (f : SS) : Fn := fun args => if args.length = m then (match f (args ++ List.replicate n .un) with
  | some (.rt sl, ρ') => if chk args ρ' = true then some (.ok sl, outs args ρ') else none
  | some (.nx, ρ') => if chk args ρ' = true then some (.ok (.pu .non), outs args ρ') else none
  | some (.ex c, ρ') => if chk args ρ' = true then some (.ex c, outs args ρ') else none
  | _ => none) else none

section
variable {S : Sg} {F H : Hp}
theorem stt_start {args : List Sl} {vs : List V} {N : List Str} (s : Same F H) (r : ArgsR S F H args vs) (ap : Apart (pinOf args vs)) (n : Nat) (hn : args.length + n = N.length) :
    Stt S ⟨F, H, pinOf args vs⟩ (args ++ List.replicate n .un) F (start N vs) H := by
  have hl := r.len
  have low : ∀ {i : Nat} {t : Sl}, (args ++ List.replicate n Sl.un)[i]? = some t → (i < args.length ∧ args[i]? = some t) ∨ t = .un := fun {i t} e => by
    by_cases h : i < args.length
    · rw [List.getElem?_append_left h] at e
      exact .inl ⟨h, e⟩
    · rw [List.getElem?_append_right (by omega), List.getElem?_replicate] at e
      split at e
      · cases e; exact .inr rfl
      · cases e
  have at_ : ∀ {i : Nat} {v : V}, vs[i]? = some v → (start N vs)[i]? = some (some v) := fun {i v} e => by
    have hi : i < vs.length := (List.getElem?_eq_some_iff.mp e).1
    unfold L2.start
    rw [List.getElem?_append_left (by simpa using hi), List.getElem?_map, e]
    rfl
  have at2 : ∀ {i : Nat} {v : V}, i < args.length → (start N vs)[i]? = some (some v) → vs[i]? = some v := fun {i v} hi e => by
    have hi : i < vs.length := by omega
    unfold L2.start at e
    rw [List.getElem?_append_left (by simpa using hi), List.getElem?_map] at e
    cases q : vs[i]? with
    | none => rw [q] at e; cases e
    | some w => rw [q] at e; cases e; rfl
  refine ⟨?_, s, Same.refl _, fun a o e _ => e, fun a _ e _ => e, fun p hp => ?_, fun i t e => ?_, fun i j t u x y p a b c d e f => ?_⟩
  · unfold L2.start
    simp only [List.length_append, List.length_map, List.length_replicate]
    omega
  · obtain ⟨q, hq, e⟩ := List.mem_filterMap.mp hp
    have e : q = some p := e
    subst e
    obtain ⟨i, hi, e⟩ := List.getElem_of_mem hq
    have e2 : (pinOf args vs)[i]? = some (some p) := by rw [List.getElem?_eq_getElem hi, e]
    obtain ⟨x, h1, h2⟩ := pinOf_get e2
    obtain ⟨v, h3, p', h4, h5, h6⟩ := r.get h1
    rw [h2] at h3
    cases h3
    cases h4
    obtain ⟨o, ho⟩ := h6.there
    show H p ≠ none
    rw [ho]
    simp
  · rcases low e with ⟨h, e⟩ | rfl
    · obtain ⟨v, h1, h2⟩ := r.get e
      cases t with
      | un => exact True.intro
      | pu x => exact ⟨v, at_ h1, h2⟩
      | ow x => exact h2.elim
      | io x =>
        obtain ⟨p, rfl, h4, h5⟩ := h2
        exact ⟨p, at_ h1, h4, pinOf_io e h1 hl, h5⟩
    · exact True.intro
  · rcases low a with ⟨hi, a⟩ | rfl
    · rcases low b with ⟨hj, b⟩ | rfl
      · cases c with
        | ow x => exact (show False from (r.get a).elim fun _ z => z.2).elim
        | io x =>
          cases d with
          | ow x => exact (show False from (r.get b).elim fun _ z => z.2).elim
          | io y => exact ap i j p (pinOf_io a (at2 hi e) hl) (pinOf_io b (at2 hj f) hl)
      · cases d
    · cases c
theorem aft_end {φ : Fr} {args : List Sl} {ρ' : Rh} {F' H' : Hp} {σ' : L2.St} (s : Stt S φ ρ' F' σ' H') (c : chk args ρ' = true) (hp : ∀ (i : Nat) (p : Addr), φ.pin[i]? = some (some p) → ∃ x, args[i]? = some (.io x)) : Aft S φ F' H' (outs args ρ') where
  f := s.fF
  fh := s.same
  k1 := s.k1
  k2 := s.k2
  io := fun i p e => by
    obtain ⟨x, hx⟩ := hp i p e
    obtain ⟨y, hy, hl⟩ := chk_io c hx
    obtain ⟨q, h1, h2, h3, h4⟩ := s.slot i _ hy
    rw [e] at h3
    cases h3
    exact ⟨y, outs_io hx hy, h2, h4⟩
end

/-- THE RULE for a def: its body's meaning is its own -/
theorem fn_sem {P : Program} {w : World} {S : Sg} {mg : Str → Option Value} {base : Heap} {x qual : Str} {params : Arguments} {body : List Stmt} {scope : Scope} {dvs : List V} {kws : List (Str × V)} {f : Addr} {fd : FuncData} {N ps : List Str} {k n : Nat} {b : SS}
    (Fd : FunD S.K x qual params body scope dvs kws f fd) (Sc : FnScope N ps scope) (hn : ps.length + n = N.length)
    (h : ∀ (cdv : Value) (A : Around) (outer : List PySem.Env) (s : Shared) (H : Hp) (E : XK) (φ : Fr), Room k (A.deeper (envOfC qual scope s.heap.objs.size f cdv)) → (∀ p, p ∈ φ.own → φ.H p ≠ none) →
      JSs (cxOf (L2.CX P w) P w S.K mg base N qual scope f cdv A outer s H E) S φ (fun cls d _ H' => E cls d H') body b) :
    FnOk P w S.K mg base (L2.CX P w) (k + 1) f fd ps (spOf S (fnOf ps.length n b)) := by
  refine Fd.ok Sc (fun vs H Q E hs => ?_) (fun cdv A outer s H vs Q E hr hs => ?_)
  · obtain ⟨F, args, r, _, h2, _, e, _⟩ := hs
    unfold fnOf at e
    split at e
    · rename_i z
      rw [← h2.len]
      exact z
    · cases e
  · obtain ⟨F, args, r, h1, h2, h3, e, q⟩ := hs
    unfold fnOf at e
    split at e
    case isFalse => cases e
    case isTrue hl =>
    refine ⟨_, h cdv A outer s H E ⟨F, H, pinOf args vs⟩ hr (stt_start (N := N) h1 h2 h3 n (by omega)).k3, ?_⟩
    have pin_io : ∀ (i : Nat) (p : Addr), (pinOf args vs)[i]? = some (some p) → ∃ x, args[i]? = some (.io x) := fun i p z => let ⟨x, y, _⟩ := pinOf_get z; ⟨x, y⟩
    cases eb : b (args ++ List.replicate n .un) with
    | none => rw [eb] at e; cases e
    | some z =>
      obtain ⟨fl, ρ'⟩ := z
      rw [eb] at e
      refine ⟨_, F, _, stt_start h1 h2 h3 n (by omega), eb, ?_⟩
      cases fl with
      | nx =>
        dsimp only at e
        split at e
        · rename_i c
          cases e
          exact fun F' σ' H' s' m => q _ F' H' (aft_end s' c pin_io) rfl
        · cases e
      | rt sl =>
        dsimp only at e
        split at e
        · rename_i c
          cases e
          refine fun v F' σ' H' s' m rv => q v F' H' (aft_end s' c pin_io) ?_
          cases sl with
          | pu x => exact rv
          | ow x =>
            obtain ⟨p, e1, nw, tp⟩ := rv
            exact ⟨p, e1, nw.f, nw.h, tp⟩
          | io x => exact TwR.imp (fun q nw => ⟨nw.f, nw.h⟩) rv
          | _ => exact rv
        · cases e
      | ex c =>
        dsimp only at e
        split at e
        · rename_i c
          cases e
          exact fun F' σ' H' s' m => q F' H' (aft_end s' c pin_io)
        · cases e
      | bk => cases e
      | ct => cases e
end Y


namespace L2
open PySem PySem.Spec
theorem PA.imp {X : Cx} {e : List Expr} {t t' : TA} (h : PA X e t) (i : ∀ σ H Q, t' σ H Q → t σ H Q) : PA X e t' := ⟨fun pos pins s σ H Q I q => h.run pos pins s σ H Q I (i σ H Q q)⟩
end L2
namespace Y
open PySem PySem.Spec L2
open PyProof.Rows (envOfC)

/-- an argument: a frozen value, the object that a slot may write -/
inductive Ar where
  | pv (x : PV) | own (i : Nat)
def owns : List Ar → List Nat
  | [] => []
  | .pv _ :: as => owns as
  | .own i :: as => i :: owns as
def slOf (ρ : Rh) : Ar → Option Sl
  | .pv x => some (.pu x)
  | .own i => match ρ[i]? with
    | some (.ow x) => some (.io x)
    | some (.io x) => some (.io x)
    | _ => none
def slsOf (ρ : Rh) : List Ar → Option (List Sl)
  | [] => some []
  | a :: as => match slOf ρ a, slsOf ρ as with
    | some s, some ss => some (s :: ss)
    | _, _ => none
/-- what was handed out to be written comes back -/
def wb (ρ : Rh) : List Ar → List Sl → Rh
  | .own i :: as, .io x :: ss => wb (match ρ[i]? with
    | some t => ρ.set i (t.put x)
    | none => ρ) as ss
  | _ :: as, _ :: ss => wb ρ as ss
  | _, _ => ρ
def ArR (S : Sg) (F : Hp) (σ : L2.St) : Ar → V → Prop
  | .pv x, v => Rep S F x v
  | .own i, v => σ[i]? = some (some v)
def ArsR (S : Sg) (F : Hp) (σ : L2.St) : List Ar → List V → Prop
  | [], vs => vs = []
  | a :: as, vs => ∃ v r, vs = v :: r ∧ ArR S F σ a v ∧ ArsR S F σ as r
section
variable {S : Sg} {φ : Fr} {F F' H H' : Hp} {σ : L2.St} {ρ : Rh}
theorem ArR.mono (e : Same F F') : ∀ {a : Ar} {v : V}, ArR S F σ a v → ArR S F' σ a v
  | .pv x, v, h => Rep.mono e _ _ h
  | .own i, v, h => h
theorem ArsR.mono (e : Same F F') : ∀ {as : List Ar} {vs : List V}, ArsR S F σ as vs → ArsR S F' σ as vs
  | [], vs, h => h
  | a :: as, vs, h => by
    obtain ⟨v, r, h1, h2, h3⟩ := h
    exact ⟨v, r, h1, h2.mono e, ArsR.mono e h3⟩
theorem mem_owns : ∀ {as : List Ar} {i k : Nat}, as[i]? = some (.own k) → k ∈ owns as
  | [], i, k, e => by simp at e
  | a :: as, 0, k, e => by
    simp at e
    subst e
    exact List.mem_cons_self
  | a :: as, i + 1, k, e => by
    have := mem_owns (as := as) (i := i) (k := k) (by simpa using e)
    cases a with
    | pv x => exact this
    | own j => exact List.mem_cons_of_mem _ this
theorem own_once : ∀ {as : List Ar} {i j k : Nat}, (owns as).Nodup → as[i]? = some (.own k) → as[j]? = some (.own k) → i = j
  | [], i, j, k, _, e, _ => by simp at e
  | a :: as, 0, 0, k, _, _, _ => rfl
  | a :: as, 0, j + 1, k, nd, e1, e2 => by
    simp at e1
    subst e1
    exact absurd (mem_owns (as := as) (i := j) (k := k) (by simpa using e2)) (List.nodup_cons.mp nd).1
  | a :: as, i + 1, 0, k, nd, e1, e2 => by
    simp at e2
    subst e2
    exact absurd (mem_owns (as := as) (i := i) (k := k) (by simpa using e1)) (List.nodup_cons.mp nd).1
  | a :: as, i + 1, j + 1, k, nd, e1, e2 => by
    have nd2 : (owns as).Nodup := by
      cases a with
      | pv x => exact nd
      | own m => exact (List.nodup_cons.mp nd).2
    have q : i = j := own_once nd2 (by simpa using e1) (by simpa using e2)
    omega
theorem wb_len : ∀ {as : List Ar} {ss : List Sl} {ρ : Rh}, (wb ρ as ss).length = ρ.length
  | [], ss, ρ => by unfold wb; rfl
  | .pv x :: as, [], ρ => by unfold wb; rfl
  | .own i :: as, [], ρ => by unfold wb; rfl
  | .pv x :: as, s :: ss, ρ => by
    unfold wb
    exact wb_len
  | .own i :: as, s :: ss, ρ => by
    cases s with
    | io x =>
      unfold wb
      rw [wb_len]
      split
      · simp
      · rfl
    | _ =>
      unfold wb
      exact wb_len
theorem wb_ne : ∀ {as : List Ar} {ss : List Sl} {ρ : Rh} {k : Nat}, k ∉ owns as → (wb ρ as ss)[k]? = ρ[k]?
  | [], ss, ρ, k, h => by unfold wb; rfl
  | .pv x :: as, [], ρ, k, h => by unfold wb; rfl
  | .own i :: as, [], ρ, k, h => by unfold wb; rfl
  | .pv x :: as, s :: ss, ρ, k, h => by
    unfold wb
    exact wb_ne (as := as) h
  | .own i :: as, s :: ss, ρ, k, h => by
    have h1 : k ≠ i := fun z => h (by rw [z]; exact List.mem_cons_self)
    have h2 : k ∉ owns as := fun z => h (List.mem_cons_of_mem _ z)
    cases s with
    | io x =>
      unfold wb
      rw [wb_ne h2]
      split
      · rw [List.getElem?_set_ne (Ne.symm h1)]
      · rfl
    | _ =>
      unfold wb
      exact wb_ne h2
theorem wb_at : ∀ {as : List Ar} {ss : List Sl} {ρ : Rh} {i k : Nat} {x : PV} {t : Sl}, (owns as).Nodup → as[i]? = some (.own k) → ss[i]? = some (.io x) → ρ[k]? = some t → (wb ρ as ss)[k]? = some (t.put x)
  | [], ss, ρ, i, k, x, t, _, e, _, _ => by simp at e
  | a :: as, [], ρ, i, k, x, t, _, _, e, _ => by simp at e
  | a :: as, s :: ss, ρ, 0, k, x, t, nd, e1, e2, e3 => by
    simp at e1 e2
    subst e1 e2
    unfold wb
    rw [wb_ne (List.nodup_cons.mp nd).1, e3]
    dsimp only
    rw [List.getElem?_set_self (List.getElem?_eq_some_iff.mp e3).1]
  | a :: as, s :: ss, ρ, i + 1, k, x, t, nd, e1, e2, e3 => by
    have e1' : as[i]? = some (.own k) := by simpa using e1
    have e2' : ss[i]? = some (.io x) := by simpa using e2
    cases a with
    | pv y =>
      unfold wb
      exact wb_at (as := as) nd e1' e2' e3
    | own m =>
      obtain ⟨n1, n2⟩ := List.nodup_cons.mp nd
      have nk : m ≠ k := fun z => n1 (by rw [z]; exact mem_owns e1')
      cases s with
      | io y =>
        unfold wb
        refine wb_at n2 e1' e2' ?_
        split
        · rw [List.getElem?_set_ne nk]
          exact e3
        · exact e3
      | _ =>
        unfold wb
        exact wb_at n2 e1' e2' e3
theorem of_owns : ∀ {as : List Ar} {k : Nat}, k ∈ owns as → ∃ (i : Nat), as[i]? = some (Ar.own k)
  | [], k, h => by simp [owns] at h
  | .pv x :: as, k, h => by
    obtain ⟨i, e⟩ := of_owns (as := as) h
    exact ⟨i + 1, by simpa using e⟩
  | .own m :: as, k, h => by
    rcases List.mem_cons.mp (show k ∈ m :: owns as from h) with e | h
    · exact ⟨0, by rw [e]; rfl⟩
    · obtain ⟨i, e⟩ := of_owns h
      exact ⟨i + 1, by simpa using e⟩
theorem slsOf_get : ∀ {as : List Ar} {ss : List Sl} {i : Nat} {s : Sl}, slsOf ρ as = some ss → ss[i]? = some s → ∃ a, as[i]? = some a ∧ slOf ρ a = some s
  | [], ss, i, s, e, h => by
    cases e
    simp at h
  | a :: as, ss, i, s, e, h => by
    unfold slsOf at e
    split at e
    · rename_i s0 ss0 q1 q2
      cases e
      cases i with
      | zero =>
        simp at h
        subst h
        exact ⟨a, rfl, q1⟩
      | succ i =>
        obtain ⟨b, h1, h2⟩ := slsOf_get q2 (by simpa using h)
        exact ⟨b, by simpa using h1, h2⟩
    · cases e
theorem slsOf_len : ∀ {as : List Ar} {ss : List Sl}, slsOf ρ as = some ss → ss.length = as.length
  | [], ss, e => by cases e; rfl
  | a :: as, ss, e => by
    unfold slsOf at e
    split at e
    · rename_i s0 ss0 q1 q2
      cases e
      have := slsOf_len q2
      simp [this]
    · cases e
theorem ArsR.get : ∀ {as : List Ar} {vs : List V} {i : Nat} {a : Ar}, ArsR S F σ as vs → as[i]? = some a → ∃ v, vs[i]? = some v ∧ ArR S F σ a v
  | [], _, _, _, _, e => by simp at e
  | y :: ys, vs, 0, x, h, e => by
    obtain ⟨v, r, rfl, h2, _⟩ := h
    simp at e
    subst e
    exact ⟨v, rfl, h2⟩
  | y :: ys, vs, i + 1, x, h, e => by
    obtain ⟨v, r, rfl, _, h3⟩ := h
    simp at e
    obtain ⟨w, e2, h4⟩ := ArsR.get h3 e
    exact ⟨w, by simpa using e2, h4⟩
theorem ArsR.len : ∀ {as : List Ar} {vs : List V}, ArsR S F σ as vs → as.length = vs.length
  | [], vs, h => by
    have h : vs = [] := h
    rw [h] <;> rfl
  | s :: ss, vs, h => by
    obtain ⟨v, r, rfl, _, h3⟩ := h
    have := ArsR.len h3
    simp [this]
theorem slOf_arg (s : Stt S φ ρ F σ H) {a : Ar} {t : Sl} {v : V} (e : slOf ρ a = some t) (r : ArR S F σ a v) : ArgR S F H t v := by
  cases a with
  | pv x =>
    cases e
    exact r
  | own i =>
    unfold slOf at e
    dsimp only at e
    have r : σ[i]? = some (some v) := r
    split at e
    · rename_i x q
      cases e
      obtain ⟨p, h1, h2, h3, _⟩ := s.mt q (.ow x)
      rw [r] at h1
      cases h1
      exact ⟨p, rfl, h2, h3⟩
    · rename_i x q
      cases e
      obtain ⟨p, h1, h2, h3, _⟩ := s.mt q (.io x)
      rw [r] at h1
      cases h1
      exact ⟨p, rfl, h2, h3⟩
    · cases e
theorem args_of (s : Stt S φ ρ F σ H) : ∀ {as : List Ar} {ss : List Sl} {vs : List V} {dv : List PV} {dvs : List V}, slsOf ρ as = some ss → ArsR S F σ as vs → Reps S F dv dvs → ArgsR S F H (ss ++ dv.map Sl.pu) (vs ++ dvs)
  | [], ss, vs, dv, dvs, e, r, d => by
    cases e
    have r : vs = [] := r
    subst r
    show ArgsR S F H (dv.map Sl.pu) dvs
    induction dv generalizing dvs with
    | nil => exact d
    | cons x xs ih =>
      obtain ⟨v, r, rfl, h1, h2⟩ := d
      exact ⟨v, r, rfl, h1, ih r h2⟩
  | a :: as, ss, vs, dv, dvs, e, r, d => by
    unfold slsOf at e
    split at e
    · rename_i s0 ss0 q1 q2
      cases e
      obtain ⟨v, r', rfl, h1, h2⟩ := r
      exact ⟨v, r' ++ dvs, rfl, slOf_arg s q1 h1, args_of s q2 h2 d⟩
    · cases e
theorem pin_own {as : List Ar} {ss : List Sl} {vs : List V} {dv : List PV} {dvs : List V} (e : slsOf ρ as = some ss) (r : ArsR S F σ as vs) {i : Nat} {p : Addr} (h : (pinOf (ss ++ dv.map Sl.pu) (vs ++ dvs))[i]? = some (some p)) :
    ∃ (k : Nat) (t : Sl) (x : PV), as[i]? = some (.own k) ∧ σ[k]? = some (some (.ref p)) ∧ ρ[k]? = some t ∧ t.Mt x := by
  obtain ⟨x, h1, h2⟩ := pinOf_get h
  have hi : i < ss.length := by
    by_cases q : i < ss.length
    · exact q
    · rw [List.getElem?_append_right (by omega), List.getElem?_map] at h1
      cases z : dv[i - ss.length]? with
      | none => rw [z] at h1; cases h1
      | some y => rw [z] at h1; cases h1
  rw [List.getElem?_append_left hi] at h1
  rw [List.getElem?_append_left (by rw [← r.len, ← slsOf_len e]; exact hi)] at h2
  obtain ⟨a, h3, h4⟩ := slsOf_get e h1
  cases a with
  | pv y => cases h4
  | own k =>
    obtain ⟨v, h5, h6⟩ := r.get h3
    rw [h2] at h5
    cases h5
    unfold slOf at h4
    dsimp only at h4
    split at h4
    · rename_i y q
      exact ⟨k, _, y, h3, h6, q, .ow y⟩
    · rename_i y q
      exact ⟨k, _, y, h3, h6, q, .io y⟩
    · cases h4
theorem apart_of (s : Stt S φ ρ F σ H) {as : List Ar} {ss : List Sl} {vs : List V} {dv : List PV} {dvs : List V} (nd : (owns as).Nodup) (e : slsOf ρ as = some ss) (r : ArsR S F σ as vs) : Apart (pinOf (ss ++ dv.map Sl.pu) (vs ++ dvs)) := fun i j p h1 h2 => by
  obtain ⟨k, t, x, a1, a2, a3, a4⟩ := pin_own e r h1
  obtain ⟨k', t', x', b1, b2, b3, b4⟩ := pin_own e r h2
  have ek : k = k' := s.sep k k' t t' x x' p a3 b3 a4 b4 a2 b2
  subst ek
  exact own_once nd a1 b1
theorem stt_after (s : Stt S φ ρ F σ H) {as : List Ar} {ss args' : List Sl} {vs : List V} {dv : List PV} {dvs : List V} (nd : (owns as).Nodup) (e : slsOf ρ as = some ss) (r : ArsR S F σ as vs) (dr : dv.length = dvs.length)
    (af : Aft S ⟨F, H, pinOf (ss ++ dv.map Sl.pu) (vs ++ dvs)⟩ F' H' args') : Stt S φ (wb ρ as args') F' σ H' := by
  have own_mem : ∀ {p : Addr}, p ∈ (⟨F, H, pinOf (ss ++ dv.map Sl.pu) (vs ++ dvs)⟩ : Fr).own → ∃ i, (pinOf (ss ++ dv.map Sl.pu) (vs ++ dvs))[i]? = some (some p) := fun {p} hp => by
    obtain ⟨q, hq, eq⟩ := List.mem_filterMap.mp hp
    have eq : q = some p := eq
    subst eq
    obtain ⟨i, hi, e⟩ := List.getElem_of_mem hq
    exact ⟨i, by rw [List.getElem?_eq_getElem hi, e]⟩
  -- an address of the callee's is a slot's of ours
  have ours : ∀ {p : Addr}, p ∈ (⟨F, H, pinOf (ss ++ dv.map Sl.pu) (vs ++ dvs)⟩ : Fr).own → ∃ (i k : Nat) (t : Sl) (x : PV), as[i]? = some (.own k) ∧ σ[k]? = some (some (.ref p)) ∧ ρ[k]? = some t ∧ t.Mt x := fun {p} hp => by
    obtain ⟨i, h⟩ := own_mem hp
    exact ⟨i, pin_own e r h⟩
  have kept : ∀ (k : Nat) (t : Sl) (x : PV) (p : Addr), k ∉ owns as → ρ[k]? = some t → t.Mt x → σ[k]? = some (some (.ref p)) → p ∉ (⟨F, H, pinOf (ss ++ dv.map Sl.pu) (vs ++ dvs)⟩ : Fr).own := fun k t x p hk h1 h2 h3 hp => by
    obtain ⟨i, k', t', x', a1, a2, a3, a4⟩ := ours hp
    have ek := s.sep k k' t t' x x' p h1 a3 h2 a4 h3 a2
    subst ek
    exact hk (mem_owns a1)
  have back : ∀ {k : Nat} {t : Sl} {y : PV}, (wb ρ as args')[k]? = some t → t.Mt y → ∃ t' w, ρ[k]? = some t' ∧ t'.Mt w := fun {k t y} h1 h2 => by
    by_cases hk : k ∈ owns as
    · obtain ⟨i, hi⟩ := of_owns hk
      obtain ⟨v, hv, rv⟩ := r.get hi
      have hl : i < as.length := (List.getElem?_eq_some_iff.mp hi).1
      have hs : i < ss.length := by rw [slsOf_len e]; exact hl
      obtain ⟨a, h3, h4⟩ := slsOf_get e (List.getElem?_eq_getElem hs)
      rw [hi] at h3
      cases h3
      unfold slOf at h4
      dsimp only at h4
      split at h4
      · rename_i z q
        exact ⟨_, z, q, .ow z⟩
      · rename_i z q
        exact ⟨_, z, q, .io z⟩
      · cases h4
    · rw [wb_ne hk] at h1
      exact ⟨t, y, h1, h2⟩
  refine ⟨by rw [wb_len]; exact s.len, af.fh, s.fF.trans af.f, fun a o q n => ?_, fun a h1 h2 h3 => ?_, fun p hp => ?_, fun k t q => ?_, fun i j t u x y p a b c d e' f => ?_⟩
  · refine af.k1 a o (s.k1 a o q n) fun hp => ?_
    obtain ⟨i, k, t, x, a1, a2, a3, a4⟩ := ours hp
    obtain ⟨p', b1, b2, b3, b4⟩ := s.mt a3 a4
    rw [a2] at b1
    cases b1
    rcases b4 with b4 | b4
    · rw [b4] at q; cases q
    · exact n b4
  · have hH : H a ≠ none := by
      cases z : φ.H a with
      | none => exact absurd z h1
      | some o => rw [s.k1 a o z h3]; simp
    refine af.k2 a hH (s.k2 a h1 h2 h3) fun hp => ?_
    obtain ⟨i, k, t, x, a1, a2, a3, a4⟩ := ours hp
    obtain ⟨p', b1, b2, b3, b4⟩ := s.mt a3 a4
    rw [a2] at b1
    cases b1
    rcases b4 with b4 | b4
    · exact h1 b4
    · exact h3 b4
  · have hH := s.k3 p hp
    by_cases ho : p ∈ (⟨F, H, pinOf (ss ++ dv.map Sl.pu) (vs ++ dvs)⟩ : Fr).own
    · obtain ⟨i, hi⟩ := own_mem ho
      obtain ⟨x, _, _, tp⟩ := af.io i p hi
      obtain ⟨o, h⟩ := tp.there
      rw [h]
      simp
    · cases z : H p with
      | none => exact absurd z hH
      | some o =>
        rw [af.k1 p o z ho]
        simp
  · by_cases hk : k ∈ owns as
    · obtain ⟨i, hi⟩ := of_owns hk
      have hl : i < as.length := (List.getElem?_eq_some_iff.mp hi).1
      have hs : i < ss.length := by rw [slsOf_len e]; exact hl
      obtain ⟨a, h3, h4⟩ := slsOf_get e (List.getElem?_eq_getElem hs)
      rw [hi] at h3
      cases h3
      obtain ⟨v, hv, rv⟩ := r.get hi
      have rv : σ[k]? = some (some v) := rv
      have h5 : (ss ++ dv.map Sl.pu)[i]? = some ss[i] := by rw [List.getElem?_append_left hs, List.getElem?_eq_getElem hs]
      have h6 : (vs ++ dvs)[i]? = some v := by rw [List.getElem?_append_left (List.getElem?_eq_some_iff.mp hv).1]; exact hv
      have hlen : (ss ++ dv.map Sl.pu).length = (vs ++ dvs).length := by simp [slsOf_len e, r.len, dr]
      unfold slOf at h4
      dsimp only at h4
      split at h4
      · rename_i z q0
        have h4 : Sl.io z = ss[i] := Option.some.inj h4
        obtain ⟨p, b1, b2, b3, b4⟩ := s.slot k _ q0
        rw [rv] at b1
        cases b1
        obtain ⟨x, c1, c2, c3⟩ := af.io i p (pinOf_io (x := z) (by rw [h5, h4]) h6 hlen)
        rw [wb_at nd hi c1 q0] at q
        cases q
        exact ⟨p, rv, c2, b3, c3⟩
      · rename_i z q0
        have h4 : Sl.io z = ss[i] := Option.some.inj h4
        obtain ⟨p, b1, b2, b3, b4⟩ := s.slot k _ q0
        rw [rv] at b1
        cases b1
        obtain ⟨x, c1, c2, c3⟩ := af.io i p (pinOf_io (x := z) (by rw [h5, h4]) h6 hlen)
        rw [wb_at nd hi c1 q0] at q
        cases q
        exact ⟨p, rv, c2, b3, c3⟩
      · cases h4
    · rw [wb_ne hk] at q
      have w := s.slot k t q
      cases t with
      | un => exact True.intro
      | pu y =>
        obtain ⟨v, k1, k2⟩ := w
        exact ⟨v, k1, Rep.mono af.f _ _ k2⟩
      | ow y =>
        obtain ⟨p, k1, k2, k3, k4⟩ := w
        have no := kept k _ y p hk q (.ow y) k1
        obtain ⟨o, ho⟩ := k4.there
        exact ⟨p, k1, af.k2 p (by show H p ≠ none; rw [ho]; simp) k2 no, k3, Top.mono af.f ((af.k1 p o ho no).trans ho.symm) k4⟩
      | io y =>
        obtain ⟨p, k1, k2, k3, k4⟩ := w
        have no := kept k _ y p hk q (.io y) k1
        obtain ⟨o, ho⟩ := k4.there
        exact ⟨p, k1, af.k2 p (by show H p ≠ none; rw [ho]; simp) k2 no, k3, Top.mono af.f ((af.k1 p o ho no).trans ho.symm) k4⟩
  · obtain ⟨t1, w1, r1, r2⟩ := back a c
    obtain ⟨t2, w2, r3, r4⟩ := back b d
    exact s.sep i j t1 t2 w1 w2 p r1 r3 r2 r4 e' f
/-- a new object of the callee's is new to us -/
theorem nw_after (s : Stt S φ ρ F σ H) {ρ' : Rh} {p : Addr} (h1 : F' p = none) (h2 : H p = none) (back : ∀ {k : Nat} {t : Sl} {y : PV}, ρ'[k]? = some t → t.Mt y → ∃ t' w, ρ[k]? = some t' ∧ t'.Mt w) : Nw φ ρ' F' σ p where
  f := h1
  h := by
    cases q : φ.H p with
    | none => rfl
    | some o =>
      by_cases ho : p ∈ φ.own
      · exact absurd h2 (s.k3 p ho)
      · have := s.k1 p o q ho
        rw [h2] at this
        cases this
  no := fun i t x a b c => by
    obtain ⟨t', w, r1, r2⟩ := back a b
    obtain ⟨p', b1, b2, b3, b4⟩ := s.mt r1 r2
    rw [c] at b1
    cases b1
    obtain ⟨o, ho⟩ := b3.there
    rw [h2] at ho
    cases ho
theorem wb_back {as : List Ar} {ss args' : List Sl} (e : slsOf ρ as = some ss) {k : Nat} {t : Sl} {y : PV} (h1 : (wb ρ as args')[k]? = some t) (h2 : t.Mt y) : ∃ t' w, ρ[k]? = some t' ∧ t'.Mt w := by
  by_cases hk : k ∈ owns as
  · obtain ⟨i, hi⟩ := of_owns hk
    have hl : i < as.length := (List.getElem?_eq_some_iff.mp hi).1
    have hs : i < ss.length := by rw [slsOf_len e]; exact hl
    obtain ⟨a, h3, h4⟩ := slsOf_get e (List.getElem?_eq_getElem hs)
    rw [hi] at h3
    cases h3
    unfold slOf at h4
    dsimp only at h4
    split at h4
    · rename_i z q
      exact ⟨_, z, q, .ow z⟩
    · rename_i z q
      exact ⟨_, z, q, .io z⟩
    · cases h4
  · rw [wb_ne hk] at h1
    exact ⟨t, y, h1, h2⟩
end

section
variable (S : Sg) (φ : Fr) (W : WX)
def tX (f : SM Ar) : TE := fun σ H Q => ∃ ρ F r, Stt S φ ρ F σ H ∧ f ρ = some r ∧ OG S φ W F σ (fun a ρ' F' H' => ∀ v, ArR S F' σ a v → Q v H') r
def tA (f : SM (List Ar)) : TA := fun σ H Q => ∃ ρ F r, Stt S φ ρ F σ H ∧ f ρ = some r ∧ OG S φ W F σ (fun as ρ' F' H' => ∀ vs, ArsR S F' σ as vs → Q vs H') r
/-- an answer that is frozen or new -/
def tR (f : SM Sl) : TE := fun σ H Q => ∃ ρ F r, Stt S φ ρ F σ H ∧ f ρ = some r ∧ OG S φ W F σ (fun sl ρ' F' H' => ∀ v, RtV S φ ρ' F' σ H' sl v → Q v H') r
end
abbrev JX (X : Cx) (S : Sg) (φ : Fr) (W : WX) (e : Expr) (f : SM Ar) : Prop := PE X e (tX S φ W f)
abbrev JA (X : Cx) (S : Sg) (φ : Fr) (W : WX) (es : List Expr) (f : SM (List Ar)) : Prop := PA X es (tA S φ W f)
abbrev JR (X : Cx) (S : Sg) (φ : Fr) (W : WX) (e : Expr) (f : SM Sl) : Prop := PE X e (tR S φ W f)
def aP (f : SE) : SM Ar := f.bind fun x ρ => some (.ok (.pv x), ρ)
def aO (i : Nat) : SM Ar := fun ρ => match ρ[i]? with
  | some (.ow _) => some (.ok (.own i), ρ)
  | some (.io _) => some (.ok (.own i), ρ)
  | _ => none
def aNil : SM (List Ar) := fun ρ => some (.ok [], ρ)
def aCons (f : SM Ar) (g : SM (List Ar)) : SM (List Ar) := f.bind fun a => g.bind fun as ρ => some (.ok (a :: as), ρ)
section
variable {X : Cx} {S : Sg} {φ : Fr} {W : WX} {e : Expr} {es : List Expr} {fe : SE} {fx : SM Ar} {fa : SM (List Ar)} {fr : SM Sl} {pos : Pos}
theorem jx_e (h : JE X S φ W e fe) : JX X S φ W e (aP fe) := h.imp fun σ H Q ⟨ρ, F, r, s, e1, o⟩ => by
  obtain ⟨r1, e2, o2⟩ := OG.seq e1 o
  refine ⟨ρ, F, r1, s, e2, o2.imp fun x ρ1 F1 H1 s1 m1 ⟨r2, e3, o3⟩ v hv => ?_⟩
  cases e3
  exact o3 F1 H1 s1 (Same.refl _) v hv
theorem jx_o (i : Nat) {x : Str} (hN : X.N[i]? = some x := by rfl) (hv : Vis X.env.scope x := by first | exact Or.inl rfl | exact Or.inr (Or.inl rfl) | exact Or.inr (Or.inr rfl)) (hd : (x == ("__debug__" : Str)) = false := by decide)
    (hcd : (x == ("__classdict__" : Str)) = false := by decide) : JX X S φ W (.Name x pos) (aO i) := (pe_var hN hv hd hcd).imp fun σ H Q ⟨ρ, F, r, s, e1, o⟩ => by
  unfold aO at e1
  split at e1
  · rename_i y q
    cases e1
    obtain ⟨p, h1, _⟩ := s.mt q (.ow y)
    exact ⟨_, h1, o F H s (Same.refl _) _ h1⟩
  · rename_i y q
    cases e1
    obtain ⟨p, h1, _⟩ := s.mt q (.io y)
    exact ⟨_, h1, o F H s (Same.refl _) _ h1⟩
  · cases e1
theorem ja_nil : JA X S φ W [] aNil := pa_nil.imp fun σ H Q ⟨ρ, F, r, s, e1, o⟩ => by
  cases e1
  exact o F H s (Same.refl _) [] rfl
theorem ja_cons (ha : JX X S φ W e fx) (hr : JA X S φ W es fa) (hs : starEach (e :: es) X.env = (false, eval e X.env) :: starEach es X.env := by rfl) : JA X S φ W (e :: es) (aCons fx fa) := (pa_cons ha hr hs).imp fun σ H Q ⟨ρ, F, r, s, e1, o⟩ => by
  obtain ⟨r1, e2, o2⟩ := OG.seq e1 o
  refine ⟨ρ, F, r1, s, e2, o2.imp fun a ρ1 F1 H1 s1 m1 ⟨r2, e3, o3⟩ v hv => ?_⟩
  obtain ⟨r3, e4, o4⟩ := OG.seq e3 o3
  refine ⟨ρ1, F1, r3, s1, e4, o4.imp fun as ρ2 F2 H2 s2 m2 ⟨r4, e5, o5⟩ vs hvs => ?_⟩
  cases e5
  exact o5 F2 H2 s2 (Same.refl _) _ ⟨v, vs, rfl, hv.mono m2, hvs⟩
/-- a def that may be called here -/
structure Cal (X : Cx) (S : Sg) (f : Addr) (dv : List PV) (g : Fn) : Prop where
  ex : ∃ (k : Nat) (fd : FuncData) (ps : List Str) (ds : List Value) (dvs : List V), FnOk X.prog X.w X.K X.mg X.base (L2.CX X.prog X.w) k f fd ps (spOf S g) ∧ Room (k + 1) X.A ∧ Binds X.K fd ps ds ∧ Vals dvs ds ∧ ∀ F, Reps S F dv dvs
/-- the answer of g at the arguments as -/
def callG (g : Fn) (dv : List PV) (as : List Ar) : SM Sl := fun ρ => if (owns as).Nodup then (match slsOf ρ as with
  | some ss => (match g (ss ++ dv.map .pu) with
    | some (.ok sl, args') => some (.ok sl, wb ρ as args')
    | some (.ex c, args') => some (.ex c, wb ρ as args')
    | none => none)
  | none => none) else none
theorem call_sp {g : Fn} {dv : List PV} {as : List Ar} {σ : L2.St} {H F : Hp} {ρ : Rh} {vs dvs : List V} {Q : VK} {r : Ou Sl × Rh} (s : Stt S φ ρ F σ H) (hr : ArsR S F σ as vs) (hd : Reps S F dv dvs) (e : callG g dv as ρ = some r)
    (o : OG S φ W F σ (fun sl ρ' F' H' => ∀ v, RtV S φ ρ' F' σ H' sl v → Q v H') r) : spOf S g (vs ++ dvs) H Q (WE W σ) := by
  unfold callG at e
  split at e
  case isFalse => cases e
  case isTrue nd =>
  split at e
  case h_2 => cases e
  case h_1 ss es =>
  cases q : g (ss ++ dv.map .pu) with
  | none => rw [q] at e; cases e
  | some z =>
    obtain ⟨a, args'⟩ := z
    rw [q] at e
    refine ⟨F, ss ++ dv.map .pu, _, s.same, args_of s es hr hd, apart_of s nd es hr, q, ?_⟩
    cases a with
    | ok sl =>
      cases e
      intro v F' H' af rv
      have s2 := stt_after s nd es hr hd.length af
      refine o F' H' s2 af.f v ?_
      cases sl with
      | pu x => exact rv
      | ow x =>
        obtain ⟨p, e1, e2, e3, e4⟩ := rv
        exact ⟨p, e1, nw_after s e2 e3 (wb_back es), e4⟩
      | io x => exact TwR.imp (fun q n => nw_after s n.1 n.2 (wb_back es)) rv
      | _ => exact rv
    | ex c =>
      cases e
      exact fun F' H' af => o F' H' (stt_after s nd es hr hd.length af) af.f
def eCall (g : Fn) (dv : List PV) (fa : SM (List Ar)) : SM Sl := fa.bind fun as => callG g dv as
/-- f(e, ..) -/
theorem jr_call {f : Addr} {dv : List PV} {g : Fn} {x : Str} {p : Pos} (tk : Takes X W) (C : Cal X S f dv g) (hm : X.mg x = some (.ref f)) (hk : PySem.W.keepIn X.K (.ref f) = true) (ha : JA X S φ W (e :: es) fa) (hg : Gl X x := by rfl)
    (hdb : (x == ("__debug__" : Str)) = false := by decide) (he : starEach (e :: es) X.env = (false, eval e X.env) :: starEach es X.env := by rfl) (hpl : (backTo pos (starEach es X.env)).any (·.1) = false := by rfl) :
    JR X S φ W (.Call (.Name x p) (e :: es) [] pos) (eCall g dv fa) := by
  obtain ⟨k, fd, ps, ds, dvs, F, hr, hb, hd, hv⟩ := C.ex
  refine (pe_callSD F (hr.mono (Nat.le_succ k)) hg hm hk hb hd (fun σ => passAt tk σ) ha hdb he hpl).imp fun σ H Q ⟨ρ, F, r, s, e1, o⟩ => ?_
  obtain ⟨r1, e2, o2⟩ := OG.seq e1 o
  exact ⟨ρ, F, r1, s, e2, o2.imp fun as ρ1 F1 H1 s1 m1 ⟨r2, e3, o3⟩ vs hvs => call_sp s1 hvs (hv F1) e3 o3⟩
/-- the answer as a frozen value -/
def asE (sl : Sl) : SE := fun ρ => match sl with
  | .pu x => some (.ok x, ρ)
  | .ow x => some (.ok x, ρ)
  | _ => none
def eR (f : SM Sl) : SE := f.bind asE
/-- .. as a new object -/
def eRN (f : SM Sl) : SE := f.bind fun sl ρ => match sl with
  | .ow x => some (.ok x, ρ)
  | _ => none
theorem JR.toN (h : JR X S φ W e fr) : JN X S φ W e (eRN fr) := h.imp fun σ H Q ⟨ρ, F, r, s, e1, o⟩ => by
  obtain ⟨r1, e2, o2⟩ := OG.seq e1 o
  refine ⟨ρ, F, r1, s, e2, o2.imp fun sl ρ1 F1 H1 s1 m1 ⟨r2, e3, o3⟩ v hv => ?_⟩
  cases sl with
  | ow x =>
    cases e3
    obtain ⟨p, rfl, nw, tp⟩ := hv
    exact o3 F1 H1 s1 (Same.refl _) p nw tp
  | _ => cases e3
theorem JR.toE (h : JR X S φ W e fr) : JE X S φ W e (eR fr) := by
  refine ⟨fun pins s0 σ H Q I hq => ?_⟩
  obtain ⟨ρ, F, r, s, e1, o⟩ := hq
  obtain ⟨r1, e2, o2⟩ := OG.seq e1 o
  refine thn (h.run pins s0 σ H (fun v H1 => ∃ sl ρ1 F1 r2, Stt S φ ρ1 F1 σ H1 ∧ RtV S φ ρ1 F1 σ H1 sl v ∧ asE sl ρ1 = some r2 ∧ OG S φ W F1 σ (fun x ρ' F' H' => ∀ v, Rep S F' x v → Q v H') r2) I ⟨ρ, F, r1, s, e2, o2.imp fun sl ρ1 F1 H1 s1 m1 ⟨r2, e3, o3⟩ v hv => ⟨sl, ρ1, F1, r2, s1, hv, e3, o3⟩⟩) fun u s1 q => ?_
  obtain ⟨v, H1, I1, rv, sl, ρ1, F1, r2, s2, hv, e3, o3⟩ := q
  cases sl with
  | pu x =>
    cases e3
    exact ⟨v, H1, I1, rv, o3 F1 H1 s2 (Same.refl _) v hv⟩
  | ow x =>
    cases e3
    obtain ⟨p, rfl, nw, tp⟩ := hv
    obtain ⟨u0, hu⟩ := tp.there
    obtain ⟨u', z, I2⟩ := I1.fzn tp hu
    obtain ⟨fr, s3⟩ := s2.freezeAs (o := u') nw.f nw.h nw.no
    exact ⟨_, _, I2, rv, o3 _ _ s3 fr _ (Top.fzn (F' := F1) (H' := H1) tp hu z nw.f)⟩
  | _ => cases e3
end
end Y


namespace Y
open PySem PySem.Spec L2
open PyProof.Rows (envOfC)

/-- a factor's size -/
def Sz (i : Int) : Prop := i.natAbs.log2 < 400000
def MulB (i j : Int) : Prop := i.natAbs < 2 ^ 64 ∨ j.natAbs < 2 ^ 64 ∨ (Sz i ∧ Sz j)
def DivB (j : Int) : Prop := j ≠ 0 ∧ j.natAbs.log2 < 9000
noncomputable instance (i : Int) : Decidable (Sz i) := Classical.propDecidable _
noncomputable instance (i j : Int) : Decidable (MulB i j) := Classical.propDecidable _
noncomputable instance (i j : Int) : Decidable (CPow i j) := Classical.propDecidable _
noncomputable instance (j : Int) : Decidable (DivB j) := Classical.propDecidable _
theorem Sz.of_lt {i : Int} {k : Nat} (h : i.natAbs < 2 ^ k) (h0 : 0 < k) (hk : k ≤ 400000) : Sz i := Nat.lt_of_lt_of_le (PySem.Flt.log2_lt_of h0 h) hk
theorem DivB.of_lt {j : Int} {k : Nat} (h : j.natAbs < 2 ^ k) (h0 : 0 < k) (hk : k ≤ 9000) (hj : j ≠ 0) : DivB j := ⟨hj, Nat.lt_of_lt_of_le (PySem.Flt.log2_lt_of h0 h) hk⟩
theorem MulB.ok {i j : Int} (h : MulB i j) : IntMulOk i j := by
  rcases h with h | h | ⟨h1, h2⟩
  · exact .of_left (intBits_le_64 (by omega) (by omega))
  · exact .of_right (intBits_le_64 (by omega) (by omega))
  · refine CMulW.ok ?_
    have h1 : i.natAbs.log2 < 400000 := h1
    have h2 : j.natAbs.log2 < 400000 := h2
    unfold CMulW
    omega

section
variable {X : Cx} {S : Sg} {φ : Fr} {W : WX} {e a b c : Expr} {es : List Expr} {f fa fb fc : SE} {pos : Pos}
def oI (g : Int → Int → Option Int) : PV → PV → Option PV
  | .int i, .int j => (g i j).map .int
  | _, _ => none
def oAdd := oI fun i j => some (i + j)
def oSub := oI fun i j => some (i - j)
noncomputable def oMul := oI fun i j => if MulB i j then some (i * j) else none
noncomputable def oFdiv := oI fun i j => if DivB j then some (i.fdiv j) else none
def oMod := oI fun i j => if j = 0 then none else some (i.fmod j)
noncomputable def oPow := oI fun i j => if CPow i j then some (i ^ j.toNat) else none
theorem op2_I {fv : Value → Value → Sem Value} {C : Int → Int → Prop} {h : Int → Int → Int} {g : Int → Int → Option Int} (ho : OpR X fv (rI C fun i j => .int (h i j))) (q : ∀ i j k, g i j = some k → C i j ∧ k = h i j) : Op2 X S fv (oI g) :=
  op2_of ho fun F H x y z v w Q s rx ry e k => by
    unfold oI at e
    split at e
    · rename_i i j
      cases z0 : g i j with
      | none => rw [z0] at e; cases e
      | some m =>
        rw [z0] at e
        cases e
        obtain ⟨c, rfl⟩ := q i j m z0
        exact ⟨i, j, rx, ry, c, k _ F H (Gw.rfl' s) rfl⟩
    · cases e
theorem op2_I0 {fv : Value → Value → Sem Value} {h : Int → Int → Int} (ho : OpR X fv (rI0 fun i j => .int (h i j))) : Op2 X S fv (oI fun i j => some (h i j)) :=
  op2_of ho fun F H x y z v w Q s rx ry e k => by
    unfold oI at e
    split at e
    · rename_i i j
      cases e
      exact ⟨i, j, rx, ry, k _ F H (Gw.rfl' s) rfl⟩
    · cases e
theorem o_sub : Op2 X S (binaryOp .Sub) oSub := op2_I0 op_sub
theorem o_addI : Op2 X S (binaryOp .Add) oAdd := op2_I0 op_add
theorem op_mulA : OpR X (binaryOp .Mult) (rI MulB fun i j => .int (i * j)) := opI fun _ _ _ _ _ _ _ hc q => PyProof.Rows.mul_int q hc.ok
theorem op_fdivA : OpR X (binaryOp .FloorDiv) (rI (fun _ j => DivB j) fun i j => .int (i.fdiv j)) := opI fun i j _ _ _ _ _ hc q => PyProof.Rows.floordiv_int hc.1 q (.inl (PyProof.noPylong_of_log2 hc.2))
theorem o_mul : Op2 X S (binaryOp .Mult) oMul := op2_I op_mulA fun i j k e => by
  split at e
  · cases e; exact ⟨by assumption, rfl⟩
  · cases e
theorem o_fdiv : Op2 X S (binaryOp .FloorDiv) oFdiv := op2_I op_fdivA fun i j k e => by
  split at e
  · cases e; exact ⟨by assumption, rfl⟩
  · cases e
theorem o_mod : Op2 X S (binaryOp .Mod) oMod := op2_I op_modN fun i j k e => by
  split at e
  · cases e
  · cases e; exact ⟨by assumption, rfl⟩
theorem o_pow : Op2 X S (binaryOp .Pow) oPow := op2_I op_pow fun i j k e => by
  split at e
  · cases e; exact ⟨by assumption, rfl⟩
  · cases e

def oAddS : PV → PV → Option PV
  | .str x, .str y => if x.length + y.length ≤ 16777216 then some (.str (x ++ y)) else none
  | _, _ => none
theorem o_addS : Op2 X S (binaryOp .Add) oAddS := op2_of op_add_str fun F H x y z v w Q s rx ry e k => by
  unfold oAddS at e
  split at e
  · split at e
    · rename_i hl
      cases e
      exact ⟨_, _, rx, ry, by rw [sizeLine_eq]; exact hl, k _ F H (Gw.rfl' s) rfl⟩
    · cases e
  · cases e

def oC (g : Int → Int → Bool) : PV → PV → Option PV
  | .int i, .int j => some (.bl (g i j))
  | _, _ => none
def oLt := oC fun i j => decide (i < j)
def oLe := oC fun i j => decide (i ≤ j)
def oGt := oC fun i j => decide (j < i)
def oGe := oC fun i j => decide (j ≤ i)
theorem op2_C {fv : Value → Value → Sem Value} {g : Int → Int → Bool} (ho : OpR X fv (rI0 fun i j => .bl (g i j))) : Op2 X S fv (oC g) := op2_of ho fun F H x y z v w Q s rx ry e k => by
  unfold oC at e
  split at e
  · rename_i i j
    cases e
    exact ⟨i, j, rx, ry, k _ F H (Gw.rfl' s) rfl⟩
  · cases e
theorem o_lt : Op2 X S (compareOp .Lt) oLt := op2_C op_lt
theorem o_gt : Op2 X S (compareOp .Gt) oGt := op2_C op_gt
theorem o_ge : Op2 X S (compareOp .GtE) oGe := op2_C op_ge
/-- == of two ints, two truth values, two texts, None and any of these -/
def scalE : PV → PV → Option Bool
  | .int i, .int j => some (decide (i = j))
  | .bl i, .bl j => some (i == j)
  | .str i, .str j => some (decide (i = j))
  | .non, .non => some true
  | .non, .int _ => some false
  | .int _, .non => some false
  | .non, .bl _ => some false
  | .bl _, .non => some false
  | .non, .str _ => some false
  | .str _, .non => some false
  | .int _, .str _ => some false
  | .str _, .int _ => some false
  | .bl _, .str _ => some false
  | .str _, .bl _ => some false
  | _, _ => none
def oEq (x y : PV) : Option PV := (scalE x y).map .bl
def oNe (x y : PV) : Option PV := (scalE x y).map fun b => .bl (!b)
theorem scalE_ok {F : Hp} {x y : PV} {v w : V} {k : Bool} (rx : Rep S F x v) (ry : Rep S F y w) (e : scalE x y = some k) : scal v w = true ∧ decide (v = w) = k := by
  unfold scalE at e
  split at e
  all_goals first | cases e | skip
  all_goals (
    have rx := rx
    have ry := ry
    unfold Rep at rx ry
    subst rx ry
    refine ⟨rfl, ?_⟩)
  all_goals first | rfl | (rw [Bool.eq_iff_iff]; simp)
theorem o_eq : Op2 X S (compareOp .Eq) oEq := op2_of op_eq fun F H x y z v w Q s rx ry e k => by
  unfold oEq at e
  cases q : scalE x y with
  | none => rw [q] at e; cases e
  | some b =>
    rw [q] at e
    cases e
    obtain ⟨h1, h2⟩ := scalE_ok rx ry q
    exact ⟨h1, by rw [h2]; exact k _ F H (Gw.rfl' s) rfl⟩
theorem o_ne : Op2 X S (compareOp .NotEq) oNe := op2_of op_ne fun F H x y z v w Q s rx ry e k => by
  unfold oNe at e
  cases q : scalE x y with
  | none => rw [q] at e; cases e
  | some b =>
    rw [q] at e
    cases e
    obtain ⟨h1, h2⟩ := scalE_ok rx ry q
    exact ⟨h1, by rw [h2]; exact k _ F H (Gw.rfl' s) rfl⟩
/-- x is None -/
def PV.isN : PV → Bool
  | .non => true
  | _ => false
theorem Rep.isN {F : Hp} {x : PV} {v : V} (r : Rep S F x v) : decide (v = .non) = x.isN := by
  cases x with
  | non => exact decide_eq_true r
  | bl b => have r : v = .bl b := r; rw [r]; rfl
  | int b => have r : v = .int b := r; rw [r]; rfl
  | str b => have r : v = .str b := r; rw [r]; rfl
  | ty b => have r : v = .ty b := r; rw [r]; rfl
  | cls b => have r : v = .ref (S.ca b) := r; rw [r]; rfl
  | tup xs => obtain ⟨a, vs, rfl, _⟩ := r; rfl
  | lst xs => obtain ⟨a, vs, rfl, _⟩ := r; rfl
  | dct ks xs => obtain ⟨a, od, vs, rfl, _⟩ := r; rfl
  | dcn ks xs => obtain ⟨a, od, vs, rfl, _⟩ := r; rfl
  | dtt ks xs => obtain ⟨a, od, vs, rfl, _⟩ := r; rfl
  | err c => obtain ⟨a, φ, rfl, _⟩ := r; rfl
  | obj c xs => obtain ⟨a, dx, vs, rfl, _⟩ := r; rfl
  | xad a => have r : v = .ref a := r; rw [r]; rfl
def oIsN (x y : PV) : Option PV := match y with
  | .non => some (.bl x.isN)
  | _ => none
def oNotN (x y : PV) : Option PV := match y with
  | .non => some (.bl (!x.isN))
  | _ => none
def eUn (op : PV → Option PV) (f : SE) : SE := f.bind fun x => fun ρ => match op x with
  | some z => some (.ok z, ρ)
  | none => none
def oNeg : PV → Option PV
  | .int i => some (.int (-i))
  | _ => none
theorem je_neg (h : JE X S φ W a fa) : JE X S φ W (.UnaryOp .USub a pos) (eUn oNeg fa) := (pe_un un_neg h).imp fun σ H Q ⟨ρ, F, r, s, e1, o⟩ => by
  obtain ⟨r1, e2, o2⟩ := OG.seq e1 o
  refine ⟨ρ, F, r1, s, e2, o2.imp fun x ρ1 F1 H1 s1 m1 ⟨r2, e3, o3⟩ v hv => ?_⟩
  cases x with
  | int i =>
    cases e3
    exact ⟨i, hv, o3 F1 H1 s1 (Same.refl _) _ rfl⟩
  | _ => cases e3

/-- arguments that are frozen values -/
def tP (S : Sg) (φ : Fr) (W : WX) (f : SM (List PV)) : TA := fun σ H Q => ∃ ρ F r, Stt S φ ρ F σ H ∧ f ρ = some r ∧ OG S φ W F σ (fun xs ρ' F' H' => ∀ vs, Reps S F' xs vs → Q vs H') r
abbrev JP (X : Cx) (S : Sg) (φ : Fr) (W : WX) (es : List Expr) (f : SM (List PV)) : Prop := PA X es (tP S φ W f)
def pNil : SM (List PV) := fun ρ => some (.ok [], ρ)
def pCons (f : SE) (g : SM (List PV)) : SM (List PV) := f.bind fun a => g.bind fun as ρ => some (.ok (a :: as), ρ)
theorem Reps.cons' {F : Hp} {x : PV} {v : V} {xs : List PV} {vs : List V} (h : Rep S F x v) (t : Reps S F xs vs) : Reps S F (x :: xs) (v :: vs) := ⟨v, vs, rfl, h, t⟩
theorem jp_nil : JP X S φ W [] pNil := pa_nil.imp fun σ H Q ⟨ρ, F, r, s, e1, o⟩ => by
  cases e1
  exact o F H s (Same.refl _) [] rfl
theorem jp_cons {fp : SM (List PV)} (ha : JE X S φ W e f) (hr : JP X S φ W es fp) (hs : starEach (e :: es) X.env = (false, eval e X.env) :: starEach es X.env := by rfl) : JP X S φ W (e :: es) (pCons f fp) := (pa_cons ha hr hs).imp fun σ H Q ⟨ρ, F, r, s, e1, o⟩ => by
  obtain ⟨r1, e2, o2⟩ := OG.seq e1 o
  refine ⟨ρ, F, r1, s, e2, o2.imp fun a ρ1 F1 H1 s1 m1 ⟨r2, e3, o3⟩ v hv => ?_⟩
  obtain ⟨r3, e4, o4⟩ := OG.seq e3 o3
  refine ⟨ρ1, F1, r3, s1, e4, o4.imp fun as ρ2 F2 H2 s2 m2 ⟨r4, e5, o5⟩ vs hvs => ?_⟩
  cases e5
  exact o5 F2 H2 s2 (Same.refl _) _ (Reps.cons' (Rep.mono m2 _ _ hv) hvs)
/-- a built-in's meaning: it raises nothing and changes nothing -/
def BfR (X : Cx) (S : Sg) (fv : Value) (op : List PV → Option PV) : Prop :=
  ∃ r : List V → Hp → VK → Prop, CallR X fv r ∧ ∀ (F H : Hp) (xs : List PV) (z : PV) (vs : List V) (Q : VK), Same F H → Reps S F xs vs → op xs = some z → (∀ u F' H', Gw F H F' H' → Rep S F' z u → Q u H') → r vs H Q
def eBf (op : List PV → Option PV) (fa : SM (List PV)) : SE := fa.bind fun xs => fun ρ => match op xs with
  | some z => some (.ok z, ρ)
  | none => none
theorem bf_red {op : List PV → Option PV} {fp : SM (List PV)} {r : List V → Hp → VK → Prop}
    (h2 : ∀ (F H : Hp) (xs : List PV) (z : PV) (vs : List V) (Q : VK), Same F H → Reps S F xs vs → op xs = some z → (∀ u F' H', Gw F H F' H' → Rep S F' z u → Q u H') → r vs H Q)
    {σ : L2.St} {H : Hp} {Q : VK} (h : tJ S φ W (eBf op fp) σ H Q) : tCB r (tP S φ W fp) σ H Q := by
  obtain ⟨ρ, F, z, s, e1, o⟩ := h
  obtain ⟨r1, e2, o2⟩ := OG.seq e1 o
  refine ⟨ρ, F, r1, s, e2, o2.imp fun xs ρ1 F1 H1 s1 m1 ⟨r2, e3, o3⟩ vs hvs => ?_⟩
  dsimp only at e3
  cases q : op xs with
  | none => rw [q] at e3; cases e3
  | some z =>
    rw [q] at e3
    cases e3
    exact h2 F1 H1 xs z vs Q s1.same hvs q fun u F' H' g ru => o3 F' H' (s1.grow g) g.f u ru
theorem je_bf {x : Str} {p : Pos} {id : String} {op : List PV → Option PV} {fp : SM (List PV)} (ho : BfR X S (.builtin id) op) (hm : X.mg x = none) (ha : JP X S φ W (e :: es) fp) (hv : bootBuiltins x = some (.builtin id) := by decide +kernel) (hg : Gl X x := by rfl)
    (hn : x ≠ "__name__" := by decide) (hdb : (x == ("__debug__" : Str)) = false := by decide) (he : starEach (e :: es) X.env = (false, eval e X.env) :: starEach es X.env := by rfl) (hpl : (backTo pos (starEach es X.env)).any (·.1) = false := by rfl) :
    JE X S φ W (.Call (.Name x p) (e :: es) [] pos) (eBf op fp) := by
  obtain ⟨r, h1, h2⟩ := ho
  exact (pe_callB h1 hg hm hv ha hn hdb he hpl).imp fun σ H Q h => bf_red h2 h
theorem je_bt {x : Str} {p : Pos} {T : String} {op : List PV → Option PV} {fp : SM (List PV)} (ho : BfR X S (.type T) op) (hm : X.mg x = none) (ha : JP X S φ W (e :: es) fp) (hv : bootBuiltins x = some (.type T) := by decide +kernel) (hg : Gl X x := by rfl)
    (hn : x ≠ "__name__" := by decide) (hdb : (x == ("__debug__" : Str)) = false := by decide) (he : starEach (e :: es) X.env = (false, eval e X.env) :: starEach es X.env := by rfl) (hpl : (backTo pos (starEach es X.env)).any (·.1) = false := by rfl) :
    JE X S φ W (.Call (.Name x p) (e :: es) [] pos) (eBf op fp) := by
  obtain ⟨r, h1, h2⟩ := ho
  exact (pe_callTy h1 hg hm hv ha hn hdb he hpl).imp fun σ H Q h => bf_red h2 h
theorem reps1 {F : Hp} {x : PV} {vs : List V} (h : Reps S F [x] vs) : ∃ v, vs = [v] ∧ Rep S F x v := by
  obtain ⟨v, r, rfl, h1, h2⟩ := h
  have h2 : r = [] := h2
  rw [h2]
  exact ⟨v, rfl, h1⟩
theorem reps2 {F : Hp} {x y : PV} {vs : List V} (h : Reps S F [x, y] vs) : ∃ v w, vs = [v, w] ∧ Rep S F x v ∧ Rep S F y w := by
  obtain ⟨v, r, rfl, h1, h2⟩ := h
  obtain ⟨w, rfl, h3⟩ := reps1 h2
  exact ⟨v, w, rfl, h1, h3⟩
def bAbs : List PV → Option PV
  | [.int i] => some (.int (if i < 0 then -i else i))
  | _ => none
theorem b_abs : BfR X S (.builtin "abs") bAbs := ⟨_, call_abs, fun F H xs z vs Q s r e k => by
  unfold bAbs at e
  split at e
  · cases e
    obtain ⟨v, rfl, hv⟩ := reps1 r
    have hv : v = .int _ := hv
    exact ⟨_, by rw [hv], k _ F H (Gw.rfl' s) rfl⟩
  · cases e⟩
def bMax : List PV → Option PV
  | [.int i, .int j] => some (.int (if j > i then j else i))
  | _ => none
def bMin : List PV → Option PV
  | [.int i, .int j] => some (.int (if j < i then j else i))
  | _ => none
theorem b_max (hc : X.calm = true) : BfR X S (.builtin "max") bMax := ⟨_, call_max2 hc, fun F H xs z vs Q s r e k => by
  unfold bMax at e
  split at e
  · cases e
    obtain ⟨v, w, rfl, hv, hw⟩ := reps2 r
    have hv : v = .int _ := hv
    have hw : w = .int _ := hw
    exact ⟨_, _, by rw [hv, hw], k _ F H (Gw.rfl' s) rfl⟩
  · cases e⟩
theorem b_min (hc : X.calm = true) : BfR X S (.builtin "min") bMin := ⟨_, call_min2 hc, fun F H xs z vs Q s r e k => by
  unfold bMin at e
  split at e
  · cases e
    obtain ⟨v, w, rfl, hv, hw⟩ := reps2 r
    have hv : v = .int _ := hv
    have hw : w = .int _ := hw
    exact ⟨_, _, by rw [hv, hw], k _ F H (Gw.rfl' s) rfl⟩
  · cases e⟩
def bInt : List PV → Option PV
  | [.int i] => some (.int i)
  | [.bl b] => some (.int (if b then 1 else 0))
  | _ => none
theorem b_int : BfR X S (.type "int") bInt := ⟨_, call_int1, fun F H xs z vs Q s r e k => by
  unfold bInt at e
  split at e
  · cases e
    obtain ⟨v, rfl, hv⟩ := reps1 r
    have hv : v = .int _ := hv
    exact .inl ⟨_, by rw [hv], k _ F H (Gw.rfl' s) rfl⟩
  · cases e
    obtain ⟨v, rfl, hv⟩ := reps1 r
    have hv : v = .bl _ := hv
    exact .inr ⟨_, by rw [hv], k _ F H (Gw.rfl' s) rfl⟩
  · cases e⟩
def bStr : List PV → Option PV
  | [.int i] => if i.natAbs.log2 < 1920 then some (.str (toString i)) else none
  | _ => none
theorem b_str : BfR X S (.type "str") bStr := ⟨_, call_str_int, fun F H xs z vs Q s r e k => by
  unfold bStr at e
  split at e
  · split at e
    · rename_i hl
      cases e
      obtain ⟨v, rfl, hv⟩ := reps1 r
      have hv : v = .int _ := hv
      exact ⟨_, by rw [hv], hl, k _ F H (Gw.rfl' s) rfl⟩
    · cases e
  · cases e⟩

/-- a value's type -/
inductive Tg where
  | b (n : String) | c (c : Cid)
def tgOf : PV → Option Tg
  | .non => some (.b "NoneType")
  | .bl _ => some (.b "bool")
  | .int _ => some (.b "int")
  | .str _ => some (.b "str")
  | .tup _ => some (.b "tuple")
  | .lst _ => some (.b "list")
  | .dct _ _ => some (.b "dict")
  | .obj c _ => some (.c c)
  | _ => none
def Tg.v (S : Sg) : Tg → Value
  | .b n => .type n
  | .c c => .ref (S.ca c)
/-- what a class is to isinstance and to the readings of its instances -/
structure ClsOk (S : Sg) (c : Cid) : Prop where
  cls : Cls S.K (S.ca c)
  a1 : PySem.W.findIn S.K (.ref (S.ca c)) "__class__" = some (some (.builtin "object.__class__"))
  a2 : PySem.W.specialIn S.K (.builtin "object.__class__") "__get__" = some (some (.builtin "getset_descriptor.__get__"))
  a3 : PySem.W.takesIn S.K (.builtin "object.__class__") = some true
  a4 : PySem.W.mroIn S.K (S.ca c) (.type "object") = some true
theorem tyx_of {F H : Hp} {x : PV} {v : V} {t : Tg} (s : Same F H) (r : Rep S F x v) (e : tgOf x = some t) (hc : ∀ c, t = .c c → ClsOk S c) : TyX S.K H v (t.v S) := by
  cases x with
  | non => cases e; have r : v = .non := r; subst r; exact .base .non
  | bl b => cases e; have r : v = .bl b := r; subst r; exact .base (.bl b)
  | int b => cases e; have r : v = .int b := r; subst r; exact .base (.int b)
  | str b => cases e; have r : v = .str b := r; subst r; exact .base (.str b)
  | ty b => cases e
  | cls b => cases e
  | xad b => cases e
  | lst xs =>
    cases e
    obtain ⟨a, vs, rfl, h, _⟩ := r
    rcases h with (h | ⟨o, h⟩) | ⟨o, its, n, h1, h2, _⟩
    · exact .base (.lst (s _ _ h))
    · exact .base (.frz (s _ _ h))
    · exact .kList h1 h2
  | tup xs =>
    cases e
    obtain ⟨a, vs, rfl, h, _⟩ := r
    rcases h with (h | ⟨o, h⟩) | ⟨o, its, n, h1, h2, _⟩
    · exact .base (.tup (s _ _ h))
    · exact .fTuple (s _ _ h)
    · exact .kTuple h1 h2
  | dct ks xs =>
    cases e
    obtain ⟨a, od, vs, rfl, h, _⟩ := r
    exact .fDict (s _ _ h)
  | dcn ks xs => cases e
  | dtt ks xs => cases e
  | err c => cases e
  | obj c xs =>
    cases e
    obtain ⟨a, dx, vs, rfl, h, _⟩ := r
    have k := hc c rfl
    exact .base (.ins (s _ _ h) k.cls k.a1 k.a2 k.a3 k.a4)
/-- isinstance's answers: tb, by the value's type and the class -/
structure Isi (S : Sg) (cs : List Cid) (tb : Tg → PV → Option Bool) : Prop where
  cls : ∀ c, c ∈ cs → ClsOk S c
  has : ∀ c y k, tb (.c c) y = some k → c ∈ cs
  ok : ∀ (t : Tg) (y : PV) (k : Bool), tb t y = some k → (∃ n, y = .ty n ∧ PySem.W.kitOne S.K (t.v S) (.type n) = some k) ∨ ∃ c, y = .cls c ∧ PySem.W.kitOne S.K (t.v S) (.ref (S.ca c)) = some k
def bIsi (tb : Tg → PV → Option Bool) : List PV → Option PV
  | [x, y] => match tgOf x with
    | some t => (tb t y).map .bl
    | none => none
  | _ => none
theorem b_isi {cs : List Cid} {tb : Tg → PV → Option Bool} (hK : X.K = S.K) (I : Isi S cs tb) : BfR X S (.builtin "isinstance") (bIsi tb) := ⟨_, call_isi, fun F H xs z vs Q s r e k => by
  unfold bIsi at e
  split at e
  · rename_i x y
    split at e
    · rename_i t q
      cases q2 : tb t y with
      | none => rw [q2] at e; cases e
      | some b =>
        rw [q2] at e
        cases e
        obtain ⟨v, w, rfl, hv, hw⟩ := reps2 r
        have ty := tyx_of s hv q (fun c ec => I.cls c (I.has c y b (by rw [← ec]; exact q2)))
        rw [hK]
        rcases I.ok t y b q2 with ⟨n, rfl, h⟩ | ⟨c, rfl, h⟩
        · exact ⟨v, w, _, .type n, b, rfl, by (have hw : w = .ty n := hw); rw [hw]; exact .ty n, ty, h, k _ F H (Gw.rfl' s) rfl⟩
        · exact ⟨v, w, _, .ref (S.ca c), b, rfl, by (have hw : w = .ref (S.ca c) := hw); rw [hw]; exact .own _, ty, h, k _ F H (Gw.rfl' s) rfl⟩
    · cases e
  · cases e⟩
theorem je_ty {x : Str} {n : String} (hm : X.mg x = none) (hv : bootBuiltins x = some (.type n) := by decide +kernel) (hg : Gl X x := by rfl) (hn : x ≠ "__name__" := by decide) (hd : (x == ("__debug__" : Str)) = false := by decide) : JE X S φ W (.Name x pos) (eC (.ty n)) :=
  je_c (pe_bltn (v := .ty n) hg hm hv rfl hn hd) fun _ => rfl

def lenP : PV → Option Nat
  | .lst xs => some xs.length
  | .tup xs => some xs.length
  | .str x => if x.length ≤ 16777216 then some x.length else none
  | _ => none
def eLen (f : SE) : SE := f.bind fun x => fun ρ => match lenP x with
  | some n => some (.ok (.int n), ρ)
  | none => none
theorem je_len {x : Str} {p : Pos} (hK : X.K = S.K) (hm : X.mg x = none) (ha : JB X S φ W e f) (hv : bootBuiltins x = some (.builtin "len") := by decide +kernel) (hg : Gl X x := by rfl)
    (hn : x ≠ "__name__" := by decide) (hdb : (x == ("__debug__" : Str)) = false := by decide) (he : starEach [e] X.env = (false, eval e X.env) :: starEach [] X.env := by rfl) (hpl : (backTo pos (starEach [] X.env)).any (·.1) = false := by rfl) :
    JE X S φ W (.Call (.Name x p) [e] [] pos) (eLen f) := (pe_callB call_len hg hm hv (pa_cons ha pa_nil he) hn hdb he hpl).imp fun σ H Q ⟨ρ, F, r, s, e1, o⟩ => by
  obtain ⟨r1, e2, o2⟩ := OG.seq e1 o
  refine ⟨ρ, F, r1, s, e2, o2.imp fun x ρ1 F1 H1 s1 m1 ⟨r2, e3, o3⟩ v hv => ?_⟩
  dsimp only at e3
  have fin : ∀ n : Nat, lenP x = some n → LenV X.K v H1 n → ∃ y m, [v] = [y] ∧ LenV X.K y H1 m ∧ Q (.int m) H1 := fun n q h => by
    rw [q] at e3
    cases e3
    exact ⟨v, n, rfl, h, o3 F1 H1 s1 (Same.refl _) _ rfl⟩
  cases x with
  | lst xs =>
    refine fin _ rfl ?_
    rcases hv with hv | ⟨p, rfl, tp⟩
    · obtain ⟨a, vs, rfl, h1, h2⟩ := hv
      exact .inl ⟨vs, hK.symm ▸ SqL.same s1.same h1, h2.length⟩
    · obtain ⟨vs, h1, h2⟩ := tp
      exact .inl ⟨vs, SqL.of h1, h2.length⟩
  | tup xs =>
    refine fin _ rfl ?_
    rcases hv with hv | ⟨p, rfl, tp⟩
    · obtain ⟨a, vs, rfl, h1, h2⟩ := hv
      exact .inr ⟨vs, by rw [hK]; exact SqT.same s1.same h1, h2.length⟩
    · exact tp.elim
  | str x =>
    unfold lenP at e3
    dsimp only at e3
    split at e3
    · rename_i m q
      split at q
      · rename_i hl
        cases q
        rcases hv with hv | ⟨p, rfl, tp⟩
        · have hv : v = .str x := hv
          subst hv
          exact fin _ (show lenP (.str x) = some x.length from if_pos hl) ⟨by rw [sizeLine_eq]; exact hl, rfl⟩
        · exact tp.elim
      · cases q
    · cases e3
  | _ => cases e3
end
end Y


namespace Y
open PySem PySem.Spec L2
open PyProof.Rows (envOfC)
section
variable {X : Cx} {S : Sg} {φ : Fr} {W : WX} {e a b c : Expr} {es : List Expr} {f fa fb fc : SE} {fp : SM (List PV)} {pos : Pos}

def ixP (x : PV) (y : PV) : Option PV := match y with
  | .int i => (match x with
    | .lst xs => atI xs i
    | .tup xs => atI xs i
    | .str z => if z.length ≤ 16777216 then (atI z.cps.toList i).map fun c => .str ⟨#[c]⟩ else none
    | _ => none)
  | _ => none
theorem Reps.atI {F : Hp} {xs : List PV} {vs : List V} {i : Int} {x : PV} (r : Reps S F xs vs) (h : L2.atI xs i = some x) : ∃ v, L2.atI vs i = some v ∧ Rep S F x v := by
  unfold L2.atI at h ⊢
  rw [← r.length]
  cases q : ixN xs.length i with
  | none => rw [q] at h; cases h
  | some j =>
    rw [q] at h
    exact r.get h
theorem ix_of {F H : Hp} {x y z : PV} {v w : V} {Q : VK} (hK : X.K = S.K) (s : Same F H) (rx : Rep S F x v ∨ ∃ p, v = .ref p ∧ Top S F H p x) (ry : Rep S F y w) (e : ixP x y = some z) (q : ∀ u, Rep S F z u → Q u H) : rIx X.K v w H Q := by
  unfold ixP at e
  split at e
  · rename_i i
    have ry : w = .int i := ry
    split at e
    · rename_i xs
      rcases rx with rx | ⟨p, rfl, tp⟩
      · obtain ⟨a, vs, rfl, h1, h2⟩ := rx
        obtain ⟨u, h3, h4⟩ := Reps.atI h2 e
        exact .inl ⟨a, vs, i, u, rfl, ry, hK.symm ▸ SqL.same s h1, h3, q u h4⟩
      · obtain ⟨vs, h1, h2⟩ := tp
        obtain ⟨u, h3, h4⟩ := Reps.atI h2 e
        exact .inl ⟨p, vs, i, u, rfl, ry, SqL.of h1, h3, q u h4⟩
    · rename_i xs
      rcases rx with rx | ⟨p, rfl, tp⟩
      · obtain ⟨a, vs, rfl, h1, h2⟩ := rx
        obtain ⟨u, h3, h4⟩ := Reps.atI h2 e
        exact .inr (.inl ⟨a, vs, i, u, rfl, ry, by rw [hK]; exact SqT.same s h1, h3, q u h4⟩)
      · exact tp.elim
    · rename_i z0
      split at e
      · rename_i hl
        cases q2 : L2.atI z0.cps.toList i with
        | none => rw [q2] at e; cases e
        | some c =>
          rw [q2] at e
          cases e
          rcases rx with rx | ⟨p, rfl, tp⟩
          · have rx : v = .str z0 := rx
            exact .inr (.inr ⟨z0, i, c, rx, ry, by rw [sizeLine_eq]; exact hl, q2, q _ rfl⟩)
          · exact tp.elim
      · cases e
    · cases e
  · cases e
theorem ix_seq' : IxR X (rIx X.K) := IxR.or ix_list (IxR.or ix_tup ix_str)
theorem je_ix (hK : X.K = S.K) (ha : JE X S φ W a fa) (hb : JE X S φ W b fb) (hs : PlainIx b := by exact fun _ _ => rfl) : JE X S φ W (.Subscript a b pos) (eOp ixP fa fb) := (pe_ix ix_seq' ha hb hs).imp fun σ H Q h =>
  two (fun F H x y z v w Q s rx ry e k => ix_of hK s (.inl rx) ry e fun u ru => k u F H (Gw.rfl' s) ru) h
/-- a slot holds something -/
def isB (ρ : Rh) (i : Nat) : Bool := match ρ[i]? with
  | some (.pu _) => true
  | some (.ow _) => true
  | some (.io _) => true
  | _ => false
theorem Stt.isB {σ : L2.St} {F H : Hp} {ρ : Rh} {i : Nat} (s : Stt S φ ρ F σ H) (h : Y.isB ρ i = true) : ∃ v, σ[i]? = some (some v) := by
  unfold Y.isB at h
  split at h
  · rename_i x q
    obtain ⟨v, h1, _⟩ := s.slot i _ q
    exact ⟨v, h1⟩
  · rename_i x q
    obtain ⟨p, h1, _⟩ := s.slot i _ q
    exact ⟨_, h1⟩
  · rename_i x q
    obtain ⟨p, h1, _⟩ := s.slot i _ q
    exact ⟨_, h1⟩
  · cases h
/-- what a slot holds now -/
def heldP (ρ : Rh) (i : Nat) : Option PV := match ρ[i]? with
  | some (.pu x) => some x
  | some (.ow x) => some x
  | some (.io x) => some x
  | _ => none
theorem Stt.held {σ : L2.St} {F H : Hp} {ρ : Rh} {i : Nat} {x : PV} {v : V} (s : Stt S φ ρ F σ H) (h : heldP ρ i = some x) (hv : σ[i]? = some (some v)) : Rep S F x v ∨ ∃ p, v = .ref p ∧ Top S F H p x := by
  unfold heldP at h
  split at h
  · rename_i y q
    cases h
    obtain ⟨w, h1, h2⟩ := s.slot i _ q
    rw [hv] at h1
    cases h1
    exact .inl h2
  · rename_i y q
    cases h
    obtain ⟨p, h1, h2, h3, h4⟩ := s.slot i _ q
    rw [hv] at h1
    cases h1
    exact .inr ⟨p, rfl, h4⟩
  · rename_i y q
    cases h
    obtain ⟨p, h1, h2, h3, h4⟩ := s.slot i _ q
    rw [hv] at h1
    cases h1
    exact .inr ⟨p, rfl, h4⟩
  · cases h
/-- of a name that may hold an object that may be written -/
def eIxV (i : Nat) (fb : SE) : SE := fun ρ => if isB ρ i = true then (fb.bind fun y => fun ρ => match heldP ρ i with
  | some x => (match ixP x y with
    | some z => some (.ok z, ρ)
    | none => none)
  | none => none) ρ else none
theorem je_ixV (i : Nat) {x : Str} {pos' : Pos} (hK : X.K = S.K) (hb : JE X S φ W b fb) (hN : X.N[i]? = some x := by rfl) (hv : Vis X.env.scope x := by first | exact Or.inl rfl | exact Or.inr (Or.inl rfl) | exact Or.inr (Or.inr rfl)) (hs : PlainIx b := by exact fun _ _ => rfl)
    (hd : (x == ("__debug__" : Str)) = false := by decide) (hcd : (x == ("__classdict__" : Str)) = false := by decide) : JE X S φ W (.Subscript (.Name x pos') b pos) (eIxV i fb) := (pe_ix ix_seq' (pe_var hN hv hd hcd) hb hs).imp fun σ H Q ⟨ρ, F, r, s, e1, o⟩ => by
  unfold eIxV at e1
  split at e1
  · rename_i hB
    obtain ⟨r1, e2, o2⟩ := OG.seq e1 o
    obtain ⟨v, hv⟩ := s.isB hB
    refine ⟨v, hv, ρ, F, r1, s, e2, o2.imp fun y ρ1 F1 H1 s1 m1 ⟨r2, e3, o3⟩ w hw => ?_⟩
    dsimp only at e3
    split at e3
    · rename_i x q
      split at e3
      · rename_i z q2
        cases e3
        exact ix_of hK s1.same (s1.held q hv) hw q2 fun u ru => o3 F1 H1 s1 (Same.refl _) u ru
      · cases e3
    · cases e3
  · cases e1

def mtL (ρ : Rh) (i : Nat) : Option (List PV) := match ρ[i]? with
  | some (.ow (.lst xs)) => some xs
  | some (.io (.lst xs)) => some xs
  | _ => none
def putL (ρ : Rh) (i : Nat) (ys : List PV) : Rh := match ρ[i]? with
  | some t => ρ.set i (t.put (.lst ys))
  | none => ρ
theorem Stt.mtL {σ : L2.St} {F H : Hp} {ρ : Rh} {i : Nat} {xs : List PV} (s : Stt S φ ρ F σ H) (h : Y.mtL ρ i = some xs) : ∃ t p vs, ρ[i]? = some t ∧ t.Mt (.lst xs) ∧ σ[i]? = some (some (.ref p)) ∧ F p = none ∧ H p = some (.lst vs) ∧ Reps S F xs vs := by
  unfold Y.mtL at h
  split at h
  · rename_i ys q
    cases h
    obtain ⟨p, h1, h2, h3, vs, h4, h5⟩ := s.slot i _ q
    exact ⟨_, p, vs, q, .ow _, h1, h2, h4, h5⟩
  · rename_i ys q
    cases h
    obtain ⟨p, h1, h2, h3, vs, h4, h5⟩ := s.slot i _ q
    exact ⟨_, p, vs, q, .io _, h1, h2, h4, h5⟩
  · cases h
theorem Stt.putL {σ : L2.St} {F H : Hp} {ρ : Rh} {i : Nat} {t : Sl} {xs ys : List PV} {p : Addr} {ws : List V} (s : Stt S φ ρ F σ H) (q : ρ[i]? = some t) (m : t.Mt (.lst xs)) (hp : σ[i]? = some (some (.ref p))) (r : Reps S F ys ws) :
    Stt S φ (Y.putL ρ i ys) F σ (upd H p (.lst ws)) := by
  unfold Y.putL
  rw [q]
  exact s.write q m hp fun H' h => ⟨ws, h, r⟩
/-- name[k] = e -/
def setI1 (i : Nat) (x k : PV) : SS := fun ρ => match k with
  | .int j => (match mtL ρ i with
    | some xs => (match ixN xs.length j with
      | some n => some (.nx, putL ρ i (xs.set n x))
      | none => none)
    | none => none)
  | _ => none
def sSetI (i : Nat) (fe fk : SE) : SS := sE fe fun x => fun ρ => if isB ρ i = true then sE fk (setI1 i x) ρ else none
theorem js_seti (i : Nat) {x : Str} {pos' pos2 : Pos} (he : JE X S φ W e fa) (hk : JE X S φ W b fb) (hN : X.N[i]? = some x := by rfl) (hv : Vis X.env.scope x := by first | exact Or.inl rfl | exact Or.inr (Or.inl rfl) | exact Or.inr (Or.inr rfl))
    (hd : (x == ("__debug__" : Str)) = false := by decide) (hcd : (x == ("__classdict__" : Str)) = false := by decide)
    (ha : ∀ v, assign (.Subscript (.Name x pos') b pos2) X.env v = (do
      let ov ← holding [v] (eval (.Name x pos') X.env)
      let iv ← holding [v, ov] (eval b X.env)
      standAt pos2
      holding [v, ov, iv] (setItem ov iv v)
      release [v, ov, iv] []) := by intro _; rfl)
    (hs : swapsWithSole [.Subscript (.Name x pos') b pos2] e pos.line X.env = pure false := by rfl) (hw : swappedStores [.Subscript (.Name x pos') b pos2] e X.env = pure none := by rfl)
    (h1 : (assignEach [.Subscript (.Name x pos') b pos2] X.env).map (·.2) = [assign (.Subscript (.Name x pos') b pos2) X.env] := by rfl) :
    JS X S φ W (.Assign [.Subscript (.Name x pos') b pos2] e pos) (sSetI i fa fb) := (ps_asg he (pg_sub (pe_var hN hv hd hcd) hk set_list ha) hs hw h1).imp fun D σ H ⟨ρ, F, r, s, e1, o⟩ => by
  obtain ⟨r1, e2, o2⟩ := OS.seqE (σ := σ) e1 o
  refine ⟨ρ, F, r1, s, e2, o2.imp fun x ρ1 F1 H1 s1 m1 ⟨r2, e3, o3⟩ v hv => ?_⟩
  split at e3
  · rename_i hB
    obtain ⟨w, hw⟩ := s1.isB hB
    obtain ⟨r3, e4, o4⟩ := OS.seqE (σ := σ) e3 o3
    refine ⟨w, hw, ρ1, F1, r3, s1, e4, o4.imp fun k ρ2 F2 H2 s2 m2 ⟨r4, e5, o5⟩ u hu => ?_⟩
    unfold setI1 at e5
    split at e5
    · rename_i j hh
      cases q : mtL ρ2 i with
      | none => rw [q] at e5; cases e5
      | some xs =>
        rw [q] at e5
        dsimp only at e5
        cases q2 : ixN xs.length j with
        | none => rw [q2] at e5; cases e5
        | some n =>
          rw [q2] at e5
          cases e5
          obtain ⟨t, p, vs, g1, g2, g3, g4, g5, g6⟩ := s2.mtL q
          rw [hw] at g3
          cases g3
          have hu : u = .int j := hu
          exact ⟨p, vs, j, n, rfl, hu, g5, by rw [← g6.length]; exact q2, o5 F2 σ _ (s2.putL g1 g2 hw (Reps.set (Rep.mono m2 _ _ hv) n g6)) (Same.refl _)⟩
    · cases e5
  · cases e3

/-- a method of a list that a slot may write: what it gives, the list behind it -/
def MlR (X : Cx) (S : Sg) (id : String) (op : List PV → List PV → Option (PV × List PV)) : Prop :=
  ∃ r : V → List V → Hp → VK → Prop, MtR X id r ∧ ∀ (F H : Hp) (l : Addr) (xs as ys : List PV) (z : PV) (vs ws : List V) (Q : VK), Same F H → F l = none → H l = some (.lst vs) → Reps S F xs vs → Reps S F as ws → op xs as = some (z, ys) →
    (∀ v vs', Rep S F z v → Reps S F ys vs' → Q v (upd H l (.lst vs'))) → r (.ref l) ws H Q
def eMl (i : Nat) (op : List PV → List PV → Option (PV × List PV)) (fp : SM (List PV)) : SE := fun ρ => if (mtL ρ i).isSome = true then (fp.bind fun as => fun ρ => match mtL ρ i with
  | some xs => (match op xs as with
    | some (z, ys) => some (.ok z, putL ρ i ys)
    | none => none)
  | none => none) ρ else none
theorem ml_red {i : Nat} {op : List PV → List PV → Option (PV × List PV)} {r : V → List V → Hp → VK → Prop}
    (h2 : ∀ (F H : Hp) (l : Addr) (xs as ys : List PV) (z : PV) (vs ws : List V) (Q : VK), Same F H → F l = none → H l = some (.lst vs) → Reps S F xs vs → Reps S F as ws → op xs as = some (z, ys) →
      (∀ v vs', Rep S F z v → Reps S F ys vs' → Q v (upd H l (.lst vs'))) → r (.ref l) ws H Q)
    {σ : L2.St} {H : Hp} {Q : VK} (h : tJ S φ W (eMl i op fp) σ H Q) : tBM X.K "list" r (tVar i) (tP S φ W fp) σ H Q := by
  obtain ⟨ρ, F, z, s, e1, o⟩ := h
  unfold eMl at e1
  split at e1
  · rename_i hB
    obtain ⟨r1, e2, o2⟩ := OG.seq e1 o
    obtain ⟨xs0, q0⟩ := Option.isSome_iff_exists.mp hB
    obtain ⟨t, p, vs, g1, g2, g3, g4, g5, g6⟩ := s.mtL q0
    refine ⟨_, g3, .inl ⟨rfl, _, SqL.of g5⟩, ρ, F, r1, s, e2, o2.imp fun as ρ1 F1 H1 s1 m1 ⟨r2, e3, o3⟩ ws hws => ?_⟩
    dsimp only at e3
    split at e3
    · rename_i xs q
      split at e3
      · rename_i z ys q2
        cases e3
        obtain ⟨t', p', vs', k1, k2, k3, k4, k5, k6⟩ := s1.mtL q
        rw [g3] at k3
        cases k3
        exact h2 F1 H1 p xs as ys z vs' ws Q s1.same k4 k5 k6 hws q2 fun v vs2 rv rvs => o3 F1 _ (s1.putL k1 k2 g3 rvs) (Same.refl _) v rv
      · cases e3
    · cases e3
  · cases e1
theorem je_ml (i : Nat) {x m : Str} {id : String} {apos pos' : Pos} {op : List PV → List PV → Option (PV × List PV)} (pa : PlainAttrs "list") (slot : Slot "list" m id) (hty : typeOf (.builtin id) = pure (.type "method_descriptor")) (hm : MlR X S id op) (ha : JP X S φ W (e :: es) fp)
    (hN : X.N[i]? = some x := by rfl) (hv : Vis X.env.scope x := by first | exact Or.inl rfl | exact Or.inr (Or.inl rfl) | exact Or.inr (Or.inr rfl)) (hd : (x == ("__debug__" : Str)) = false := by decide) (hcd : (x == ("__classdict__" : Str)) = false := by decide)
    (hbase : attributeBase (.Name x pos') m X.env (eval (.Name x pos') X.env) = eval (.Name x pos') X.env := by rfl)
    (hfew : ((backTo pos (starEach (e :: es) X.env)).all (fun x => !x.1) && (backToKw pos (keywordEach [] X.env)).all (fun x => x.1.isSome)
      && decide ((e :: es).length + ([] : List Keyword).length + (if ([] : List Keyword).isEmpty then 0 else 1) < 30)) = true := by rfl)
    (hline : (apos.endLine == pos.line) = true := by rfl) (hs : starEach (e :: es) X.env = (false, eval e X.env) :: starEach es X.env := by rfl) (hplain : (backTo pos (starEach es X.env)).any (·.1) = false := by rfl) :
    JE X S φ W (.Call (.Attribute (.Name x pos') m apos) (e :: es) [] pos) (eMl i op fp) := by
  obtain ⟨r, h1, h2⟩ := hm
  exact (pe_bm pa slot hty h1 (pe_var hN hv hd hcd) ha hbase hfew hline hs hplain).imp fun σ H Q h => ml_red h2 h
def mAppend : List PV → List PV → Option (PV × List PV)
  | xs, [y] => if xs.length < 16777216 then some (.non, xs ++ [y]) else none
  | _, _ => none
theorem ml_append : MlR X S "list.append" mAppend := ⟨_, mt_append, fun F H l xs as ys z vs ws Q s fl hl r ra e k => by
  unfold mAppend at e
  split at e
  · rename_i y
    split at e
    · rename_i hz
      cases e
      obtain ⟨v, rfl, hv⟩ := reps1 ra
      exact ⟨l, vs, v, rfl, rfl, hl, by rw [sizeLine_eq, ← r.length]; exact hz, k .non _ rfl (Reps.append r (Reps.cons hv Reps.nil))⟩
    · cases e
  · cases e⟩
/-- name.append(e) -/
theorem je_append (i : Nat) {x : Str} {apos pos' : Pos} (ha : JE X S φ W e fa) (hN : X.N[i]? = some x := by rfl) (hv : Vis X.env.scope x := by first | exact Or.inl rfl | exact Or.inr (Or.inl rfl) | exact Or.inr (Or.inr rfl)) (hd : (x == ("__debug__" : Str)) = false := by decide) (hcd : (x == ("__classdict__" : Str)) = false := by decide)
    (hbase : attributeBase (.Name x pos') "append" X.env (eval (.Name x pos') X.env) = eval (.Name x pos') X.env := by rfl)
    (hfew : ((backTo pos (starEach [e] X.env)).all (fun x => !x.1) && (backToKw pos (keywordEach [] X.env)).all (fun x => x.1.isSome)
      && decide (([e] : List Expr).length + ([] : List Keyword).length + (if ([] : List Keyword).isEmpty then 0 else 1) < 30)) = true := by rfl)
    (hline : (apos.endLine == pos.line) = true := by rfl) (hs : starEach [e] X.env = (false, eval e X.env) :: starEach [] X.env := by rfl) (hplain : (backTo pos (starEach [] X.env)).any (·.1) = false := by rfl) :
    JE X S φ W (.Call (.Attribute (.Name x pos') "append" apos) [e] [] pos) (eMl i mAppend (pCons fa pNil)) :=
  je_ml i PySem.F.plainAttrs_list PySem.F.slot_list_append PySem.F.type_list_append ml_append (jp_cons ha jp_nil hs) hN hv hd hcd hbase hfew hline hs hplain

def eTup (fp : SM (List PV)) : SE := fp.bind fun xs => fun ρ => if xs.length ≤ 1000 then some (.ok (.tup xs), ρ) else none
theorem je_tup {k : Nat} (h : JP X S φ W es fp) : JE X S φ W (.Tuple es k pos) (eTup fp) := (pe_tup h).imp fun σ H Q ⟨ρ, F, r, s, e1, o⟩ => by
  obtain ⟨r1, e2, o2⟩ := OG.seq e1 o
  refine ⟨ρ, F, r1, s, e2, o2.imp fun xs ρ1 F1 H1 s1 m1 ⟨r2, e3, o3⟩ vs hvs => ?_⟩
  dsimp only at e3
  split at e3
  · rename_i hl
    cases e3
    refine ⟨by rw [sizeLine_eq, ← hvs.length]; omega, fun p hp => ?_⟩
    have g := Gw.new (o := .tup vs) s1.same hp
    exact o3 _ _ (s1.grow g) g.f _ ⟨p, vs, rfl, SqT.of upd_same, Reps.mono g.f _ _ hvs⟩
  · cases e3
theorem Stt.newOwn {σ : L2.St} {F H : Hp} {ρ : Rh} {p : Addr} {o : HO} (s : Stt S φ ρ F σ H) (hp : H p = none) : Stt S φ ρ F σ (upd H p o) ∧ Nw φ ρ F σ p := by
  refine ⟨s.grow (Gw.newOwn s.same hp), ⟨s.same.free hp, ?_, fun i t x h1 h2 h3 => ?_⟩⟩
  · cases q : φ.H p with
    | none => rfl
    | some u =>
      by_cases ho : p ∈ φ.own
      · exact absurd hp (s.k3 p ho)
      · rw [s.k1 p u q ho] at hp
        cases hp
  · obtain ⟨p', b1, b2, b3, _⟩ := s.mt h1 h2
    rw [h3] at b1
    cases b1
    obtain ⟨u, hu⟩ := b3.there
    rw [hp] at hu
    cases hu
def eLst (fp : SM (List PV)) : SE := fp.bind fun xs => fun ρ => if xs.length ≤ 1000 then some (.ok (.lst xs), ρ) else none
theorem jn_lst (h : JP X S φ W es fp) : JN X S φ W (.List es pos) (eLst fp) := (pe_lst h).imp fun σ H Q ⟨ρ, F, r, s, e1, o⟩ => by
  obtain ⟨r1, e2, o2⟩ := OG.seq e1 o
  refine ⟨ρ, F, r1, s, e2, o2.imp fun xs ρ1 F1 H1 s1 m1 ⟨r2, e3, o3⟩ vs hvs => ?_⟩
  dsimp only at e3
  split at e3
  · rename_i hl
    cases e3
    refine ⟨by rw [sizeLine_eq, ← hvs.length]; omega, fun p hp => ?_⟩
    obtain ⟨s2, nw⟩ := s1.newOwn (o := .lst vs) hp
    exact o3 _ _ s2 (Same.refl _) p nw ⟨vs, upd_same, hvs⟩
  · cases e3
end
end Y


namespace Y
open PySem PySem.Spec L2
open PyProof.Rows (envOfC)

theorem flds_nd : ∀ c : Cid, (flds c).Nodup := by
  intro c
  cases c <;> decide +kernel
theorem lookup_zip {f : Str} : ∀ {l : List Str} {vs : List V} {j : Nat}, l.Nodup → l[j]? = some f → (l.zip vs).lookup f = vs[j]?
  | [], vs, j, _, e => by simp at e
  | a :: l, [], j, _, e => by simp
  | a :: l, v :: vs, 0, _, e => by
    simp at e
    subst e
    simp [List.lookup]
  | a :: l, v :: vs, j + 1, nd, e => by
    have e' : l[j]? = some f := by simpa using e
    have ne : f ≠ a := fun z => (List.nodup_cons.mp nd).1 (by rw [← z]; exact List.mem_of_getElem? e')
    have hb : (f == a) = false := beq_eq_false_iff_ne.mpr ne
    have := lookup_zip (vs := vs) (List.nodup_cons.mp nd).2 e'
    simpa [List.lookup, hb] using this
theorem putF_set {f : Str} {y : V} : ∀ {l : List Str} {vs : List V} {j : Nat}, l.Nodup → l[j]? = some f → j < vs.length → putF f y (l.zip vs) = l.zip (vs.set j y)
  | [], vs, j, _, e, _ => by simp at e
  | a :: l, [], j, _, _, h => by simp at h
  | a :: l, v :: vs, 0, _, e, _ => by
    simp at e
    subst e
    show putF a y ((a, v) :: l.zip vs) = _
    unfold putF
    rw [if_pos rfl]
    rfl
  | a :: l, v :: vs, j + 1, nd, e, h => by
    have e' : l[j]? = some f := by simpa using e
    have ne : a ≠ f := fun z => (List.nodup_cons.mp nd).1 (by rw [z]; exact List.mem_of_getElem? e')
    show putF f y ((a, v) :: l.zip vs) = _
    unfold putF
    rw [if_neg ne, putF_set (List.nodup_cons.mp nd).2 e' (by simpa using h)]
    rfl
theorem putF_new {f : Str} {y : V} : ∀ {l : List Str} {vs : List V}, l.Nodup → l[vs.length]? = some f → putF f y (l.zip vs) = l.zip (vs ++ [y])
  | [], vs, _, e => by simp at e
  | a :: l, [], _, e => by
    simp at e
    subst e
    simp [putF]
  | a :: l, v :: vs, nd, e => by
    have e' : l[vs.length]? = some f := by simpa using e
    have ne : a ≠ f := fun z => (List.nodup_cons.mp nd).1 (by rw [z]; exact List.mem_of_getElem? e')
    show putF f y ((a, v) :: l.zip vs) = _
    unfold putF
    rw [if_neg ne, putF_new (List.nodup_cons.mp nd).2 e']
    rfl

/-- what an argument is now -/
def contAr (ρ : Rh) : Ar → Option PV
  | .pv x => some x
  | .own i => match ρ[i]? with
    | some (.ow x) => some x
    | some (.io x) => some x
    | _ => none
section
variable {X : Cx} {S : Sg} {φ : Fr} {W : WX} {e a b c : Expr} {es : List Expr} {f fa fb fc : SE} {fr : SM Ar} {fs : SM (List Ar)} {pos : Pos}
/-- an instance, of whatever kind of argument -/
theorem Stt.inst {σ : L2.St} {F H : Hp} {ρ : Rh} {a : Ar} {v : V} {c : Cid} {xs : List PV} (s : Stt S φ ρ F σ H) (r : ArR S F σ a v) (e : contAr ρ a = some (.obj c xs)) :
    ∃ p dx vs, v = .ref p ∧ H p = some (.ins (S.ca c) dx ((flds c).zip vs)) ∧ vs.length ≤ (flds c).length ∧ Reps S F xs vs := by
  cases a with
  | pv x =>
    cases e
    obtain ⟨p, dx, vs, h1, h2, h3, h4⟩ := r
    exact ⟨p, dx, vs, h1, s.same _ _ h2, h3, h4⟩
  | own i =>
    unfold contAr at e
    dsimp only at e
    have r : σ[i]? = some (some v) := r
    split at e
    · rename_i y q
      cases e
      obtain ⟨p, h1, h2, ⟨dx, vs, h3, h4, h5⟩, _⟩ := s.mt q (.ow _)
      rw [r] at h1
      cases h1
      exact ⟨p, dx, vs, rfl, h3, h4, h5⟩
    · rename_i y q
      cases e
      obtain ⟨p, h1, h2, ⟨dx, vs, h3, h4, h5⟩, _⟩ := s.mt q (.io _)
      rw [r] at h1
      cases h1
      exact ⟨p, dx, vs, rfl, h3, h4, h5⟩
    · cases e

/-- an attribute: a field at a place, a property -/
inductive At where
  | fld (j : Nat) | prop (g : Fn)
structure AttOk (X : Cx) (S : Sg) (f : Str) (c : Cid) (a : At) : Prop where
  cls : Cls S.K (S.ca c)
  at_ : match a with
    | .fld j => NoAttr S.K (S.ca c) f ∧ (flds c)[j]? = some f
    | .prop g => ∃ p ga, PropOf S.K (S.ca c) f p ga ∧ Cal X S ga [] g
def att1 (tab : Cid → Option At) (a : Ar) : SM Sl := fun ρ => match contAr ρ a with
  | some (.obj c xs) => (match tab c with
    | some (.fld j) => (match xs[j]? with
      | some x => some (.ok (.pu x), ρ)
      | none => none)
    | some (.prop g) => (match callG g [] [a] ρ with
      | some (.ok sl, ρ') => some (.ok sl, ρ')
      | _ => none)
    | none => none)
  | _ => none
def eAtt (tab : Cid → Option At) (fr : SM Ar) : SM Sl := fr.bind (att1 tab)
theorem jr_att {n : Str} {tab : Cid → Option At} (hK : X.K = S.K) (h : ∀ c a, tab c = some a → AttOk X S n c a) (ha : JX X S φ W a fr) (hb : attributeBase a n X.env (eval a X.env) = eval a X.env := by rfl) : JR X S φ W (.Attribute a n pos) (eAtt tab fr) := by
  refine ⟨fun pins s0 σ H Q I hq => ?_⟩
  obtain ⟨ρ, F, r, s, e1, o⟩ := hq
  obtain ⟨r1, e2, o2⟩ := OG.seq e1 o
  refine attr_of hb (thn (ha.run pins s0 σ H _ I ⟨ρ, F, r1, s, e2, o2.imp fun a ρ1 F1 H1 s1 m1 ⟨r2, e3, o3⟩ v hv => show ∃ a ρ1 F1 r2, Stt S φ ρ1 F1 σ H1 ∧ ArR S F1 σ a v ∧ att1 tab a ρ1 = some r2 ∧ OG S φ W F1 σ (fun sl ρ' F' H' => ∀ v, RtV S φ ρ' F' σ H' sl v → Q v H') r2 from ⟨a, ρ1, F1, r2, s1, hv, e3, o3⟩⟩) fun u s1 q => ?_)
  obtain ⟨v, H1, I1, rv, a, ρ1, F1, r2, s2, hv, e3, o3⟩ := q
  unfold att1 at e3
  split at e3
  case h_2 => cases e3
  case h_1 c xs q =>
  obtain ⟨p, dx, vs, rfl, h1, h2, h3⟩ := s2.inst hv q
  obtain rfl : u = Value.ref p := rv
  split at e3
  · rename_i j q2
    have ok := h c _ q2
    obtain ⟨n1, n2⟩ := ok.at_
    split at e3
    · rename_i x q3
      cases e3
      obtain ⟨w, hw, rw'⟩ := h3.get q3
      refine getattr_ok I1 h1 (by rw [hK]; exact ok.cls) (by rw [hK]; exact n1) (by rw [lookup_zip (flds_nd c) n2]; exact hw) fun u' s' I' ru => ?_
      exact ⟨w, H1, I', ru, o3 F1 H1 s2 (Same.refl _) w rw'⟩
    · cases e3
  · rename_i g q2
    have ok := h c _ q2
    obtain ⟨p', ga, hp, C⟩ := ok.at_
    obtain ⟨k, fd, ps, ds, dvs, Fn, hr, hbb, hd, hdv⟩ := C.ex
    split at e3
    · rename_i sl ρ' q3
      cases e3
      have hd0 : dvs = [] := hdv F1
      subst hd0
      have sp := call_sp (W := fun _ _ _ _ => False) (as := [a]) (vs := [V.ref p]) (dvs := []) s2 ⟨V.ref p, [], rfl, hv, rfl⟩ (show Reps S F1 [] [] from rfl) q3 (Q := Q) (by exact o3)
      exact getprop_ok I1 h1 (by rw [hK]; exact ok.cls) (by rw [hK]; exact hp) Fn hr hbb hd passL sp
    · cases e3
  · cases e3

def setF1 (i : Nat) (tab : Cid → Option Nat) (x : PV) : SS := fun ρ => match contAr ρ (.own i), ρ[i]? with
  | some (.obj c xs), some t => (match tab c with
    | some j => if j < xs.length then some (.nx, ρ.set i (t.put (.obj c (xs.set j x)))) else if j = xs.length then some (.nx, ρ.set i (t.put (.obj c (xs ++ [x])))) else none
    | none => none)
  | _, _ => none
def sSetF (i : Nat) (tab : Cid → Option Nat) (fe : SE) : SS := sE fe (setF1 i tab)
theorem js_setf (i : Nat) {x n : Str} {pos' pos2 : Pos} {tab : Cid → Option Nat} (hK : X.K = S.K) (h : ∀ c j, tab c = some j → AttOk X S n c (.fld j)) (he : JE X S φ W e f) (hN : X.N[i]? = some x := by rfl)
    (hv : Vis X.env.scope x := by first | exact Or.inl rfl | exact Or.inr (Or.inl rfl) | exact Or.inr (Or.inr rfl)) (hd : (x == ("__debug__" : Str)) = false := by decide) (hcd : (x == ("__classdict__" : Str)) = false := by decide)
    (hs : swapsWith e (some (.Attribute (.Name x pos') n pos2)) pos.line X.env = pure false := by rfl) : JS X S φ W (.Assign [.Attribute (.Name x pos') n pos2] e pos) (sSetF i tab f) := (ps_fld (pe_var hN hv hd hcd) he hs).imp fun D σ H ⟨ρ, F, r, s, e1, o⟩ => by
  obtain ⟨r1, e2, o2⟩ := OS.seqE (σ := σ) e1 o
  refine ⟨ρ, F, r1, s, e2, o2.imp fun y ρ1 F1 H1 s1 m1 ⟨r2, e3, o3⟩ v hy => ?_⟩
  unfold setF1 at e3
  split at e3
  case h_2 => cases e3
  case h_1 c xs t q qt =>
  have mt : t.Mt (.obj c xs) := by
    unfold contAr at q
    dsimp only at q
    rw [qt] at q
    cases t with
    | un => cases q
    | pu y => cases q
    | ow y => cases q; exact .ow _
    | io y => cases q; exact .io _
  obtain ⟨p, g1, g2, ⟨dx, vs, g3, g4, g5⟩, g6⟩ := s1.mt qt mt
  cases q2 : tab c with
  | none => rw [q2] at e3; cases e3
  | some j =>
    rw [q2] at e3
    dsimp only at e3
    have ok := h c j q2
    obtain ⟨n1, n2⟩ := ok.at_
    have hl : (flds c).length ≤ 900 := by cases c <;> decide
    have hj : j < (flds c).length := (List.getElem?_eq_some_iff.mp n2).1
    refine ⟨_, g1, p, S.ca c, dx, _, rfl, g3, by rw [hK]; exact ok.cls, by rw [hK]; exact n1, by rw [List.length_zip]; omega, ?_⟩
    split at e3
    · rename_i hlt
      cases e3
      rw [putF_set (flds_nd c) n2 (by rw [← g5.length]; exact hlt)]
      exact o3 F1 σ _ (s1.write qt mt g1 fun H' h' => ⟨dx, _, h', by simpa using g4, Reps.set hy j g5⟩) (Same.refl _)
    · split at e3
      · rename_i heq
        cases e3
        rw [g5.length] at heq
        subst heq
        rw [putF_new (flds_nd c) n2]
        exact o3 F1 σ _ (s1.write qt mt g1 fun H' h' => ⟨dx, _, h', by simp; omega, Reps.append g5 (Reps.cons hy Reps.nil)⟩) (Same.refl _)
      · cases e3

structure MethOk (X : Cx) (S : Sg) (m : Str) (c : Cid) (g : Fn) (dv : List PV) : Prop where
  cls : Cls S.K (S.ca c)
  no : m ∉ flds c
  ex : ∃ f, Meth S.K (S.ca c) m f ∧ Cal X S f dv g
def meth1 (tab : Cid → Option (Fn × List PV)) (fs : SM (List Ar)) (a : Ar) : SM Sl := fun ρ => match contAr ρ a with
  | some (.obj c _) => (match tab c with
    | some (g, dv) => (fs.bind fun as => callG g dv (a :: as)) ρ
    | none => none)
  | _ => none
def eMeth (tab : Cid → Option (Fn × List PV)) (fr : SM Ar) (fs : SM (List Ar)) : SM Sl := fr.bind (meth1 tab fs)
end
end Y


namespace Y
open PySem PySem.Spec L2
open PyProof.Rows (envOfC)
section
variable {S : Sg} {φ : Fr} {ρ : Rh} {F F' H H' : Hp} {σ : L2.St}
/-- the slots with one more, that holds a new object -/
theorem Stt.more {p : Addr} {y : PV} (s : Stt S φ ρ F σ H) (nw : Nw φ ρ F σ p) (tp : Top S F H p y) : Stt S φ (ρ ++ [.ow y]) F (σ.take ρ.length ++ [some (.ref p)]) H where
  len := by
    simp only [List.length_append, List.length_take, List.length_singleton]
    have := s.len
    omega
  same := s.same
  fF := s.fF
  k1 := s.k1
  k2 := s.k2
  k3 := s.k3
  slot := fun i t e => by
    have hl : (σ.take ρ.length).length = ρ.length := by
      rw [List.length_take]
      have := s.len
      omega
    by_cases h : i < ρ.length
    · rw [List.getElem?_append_left h] at e
      rw [List.getElem?_append_left (by rw [hl]; exact h), List.getElem?_take_of_lt h]
      exact s.slot i t e
    · by_cases h2 : i = ρ.length
      · subst h2
        rw [List.getElem?_append_right (Nat.le_refl _)] at e
        rw [List.getElem?_append_right (by rw [hl]; exact Nat.le_refl _), hl]
        simp at e
        subst e
        exact ⟨p, by simp, nw.f, nw.h, tp⟩
      · rw [List.getElem?_eq_none (by simp; omega)] at e
        cases e
  sep := fun i j t u x z q a b c d e f => by
    have hl : (σ.take ρ.length).length = ρ.length := by
      rw [List.length_take]
      have := s.len
      omega
    have low : ∀ {k : Nat} {t : Sl}, (ρ ++ [Sl.ow y])[k]? = some t → (k < ρ.length ∧ ρ[k]? = some t ∧ (σ.take ρ.length ++ [some (V.ref p)])[k]? = σ[k]?) ∨ (k = ρ.length ∧ (σ.take ρ.length ++ [some (V.ref p)])[k]? = some (some (.ref p))) := fun {k t} h => by
      by_cases h1 : k < ρ.length
      · rw [List.getElem?_append_left h1] at h
        exact .inl ⟨h1, h, by rw [List.getElem?_append_left (by rw [hl]; exact h1), List.getElem?_take_of_lt h1]⟩
      · by_cases h2 : k = ρ.length
        · subst h2
          exact .inr ⟨rfl, by rw [List.getElem?_append_right (by rw [hl]; exact Nat.le_refl _), hl]; simp⟩
        · rw [List.getElem?_eq_none (by simp; omega)] at h
          cases h
    rcases low a with ⟨i1, i2, i3⟩ | ⟨i1, i3⟩
    · rcases low b with ⟨j1, j2, j3⟩ | ⟨j1, j3⟩
      · rw [i3] at e
        rw [j3] at f
        exact s.sep i j t u x z q i2 j2 c d e f
      · rw [i3] at e
        rw [j3] at f
        cases f
        exact absurd e (nw.no i t x i2 c)
    · rcases low b with ⟨j1, j2, j3⟩ | ⟨j1, j3⟩
      · rw [i3] at e
        cases e
        rw [j3] at f
        exact absurd f (nw.no j u z j2 d)
      · rw [i1, j1]
/-- the one more goes -/
theorem Stt.less {ρ1 : Rh} {t : Sl} {w : Option V} {n : Nat} (s : Stt S φ (ρ1 ++ [t]) F (σ.take n ++ [w]) H) (hn : ρ1.length = n) (hl : n ≤ σ.length) : Stt S φ ρ1 F σ H where
  len := by omega
  same := s.same
  fF := s.fF
  k1 := s.k1
  k2 := s.k2
  k3 := s.k3
  slot := fun i u e => by
    have h : i < ρ1.length := (List.getElem?_eq_some_iff.mp e).1
    have q := s.slot i u (by rw [List.getElem?_append_left h]; exact e)
    have z : (σ.take n ++ [w])[i]? = σ[i]? := by rw [List.getElem?_append_left (by rw [List.length_take]; omega), List.getElem?_take_of_lt (by omega)]
    rw [z] at q
    exact q
  sep := fun i j u v x y p a b c d e f => by
    have h1 : i < ρ1.length := (List.getElem?_eq_some_iff.mp a).1
    have h2 : j < ρ1.length := (List.getElem?_eq_some_iff.mp b).1
    have z : ∀ {k : Nat}, k < ρ1.length → (σ.take n ++ [w])[k]? = σ[k]? := fun {k} hk => by rw [List.getElem?_append_left (by rw [List.length_take]; omega), List.getElem?_take_of_lt (by omega)]
    exact s.sep i j u v x y p (by rw [List.getElem?_append_left h1]; exact a) (by rw [List.getElem?_append_left h2]; exact b) c d (by rw [z h1]; exact e) (by rw [z h2]; exact f)
theorem ArsR.more {w : Option V} {n : Nat} (hn : n ≤ σ.length) : ∀ {as : List Ar} {vs : List V}, (∀ i, i ∈ owns as → i < n) → ArsR S F σ as vs → ArsR S F (σ.take n ++ [w]) as vs
  | [], vs, _, h => h
  | a :: as, vs, hw, h => by
    obtain ⟨v, r, h1, h2, h3⟩ := h
    refine ⟨v, r, h1, ?_, ArsR.more hn (fun i hi => hw i ?_) h3⟩
    · cases a with
      | pv x => exact h2
      | own i =>
        have hi : i < n := hw i List.mem_cons_self
        show (σ.take n ++ [w])[i]? = some (some v)
        rw [List.getElem?_append_left (by rw [List.length_take]; omega), List.getElem?_take_of_lt hi]
        exact h2
    · cases a with
      | pv x => exact hi
      | own j => exact List.mem_cons_of_mem _ hi
end
section
variable {X : Cx} {S : Sg} {φ : Fr} {W : WX} {e a b c : Expr} {es : List Expr} {f fa fb fc : SE} {fr : SM Ar} {fs : SM (List Ar)} {pos : Pos}

def lastW (ρ : Rh) : Option PV := match ρ.getLast? with
  | some (.ow y) => some y
  | _ => none
def make1 (c : Cid) (g : Fn) (dv : List PV) (as : List Ar) : SE := fun ρ => if (owns as).all (fun i => decide (i < ρ.length)) = true then (match callG g dv (.own ρ.length :: as) (ρ ++ [.ow (.obj c [])]) with
  | some (.ok (.pu .non), ρ') => (match lastW ρ' with
    | some y => if ρ'.length = ρ.length + 1 then some (.ok y, ρ'.dropLast) else none
    | none => none)
  | some (.ex x, ρ') => if ρ'.length = ρ.length + 1 then some (.ex x, ρ'.dropLast) else none
  | _ => none) else none
def eMake (c : Cid) (g : Fn) (dv : List PV) (fs : SM (List Ar)) : SE := fs.bind (make1 c g dv)
structure MakeOk (X : Cx) (S : Sg) (c : Cid) (fI : Addr) (g : Fn) (dv : List PV) : Prop where
  mks : Mk S.K (S.ca c) fI
  cal : Cal X S fI dv g
theorem run_mk {pins : List (Addr × Obj)} {σ : L2.St} {H : Hp} {s : Shared} {Q : VK} {us ds : List Value} {vs dvs : List V} {C fI : Addr} {k : Nat} {fd : FuncData} {ps : List Str} {sp : Sp} {E : XK} (M : Mk X.K C fI)
    (Fo : FnOk X.prog X.w X.K X.mg X.base (L2.CX X.prog X.w) k fI fd ps sp) (hr : Room (k + 1) X.A) (hb : Binds X.K fd ps ds) (hd : Vals dvs ds) (hx : PassesAt (L2.CX X.prog X.w) X σ E) (I : Inv X pins σ H s) (r : Vals vs us)
    (h : ∀ x dx, H x = none → H dx = none → dx ≠ x → sp (.ref x :: (vs ++ dvs)) (upd (upd H dx (.own x)) x (.ins C dx [])) (fun v H2 => v = .non ∧ Q (.ref x) H2) E) : wpAny (model X.prog X.w) X.A (call (.ref C) us) (EP X pins σ Q) X.xe s := by
  have hq := h (s.heap.objs.size + 1) s.heap.objs.size (I.hok.fresh (Nat.le_succ _)) (I.hok.fresh (Nat.le_refl _)) (Nat.ne_of_lt (Nat.lt_succ_self s.heap.objs.size))
  have J := Inv.made (C := C) I
  have rr : Vals (V.ref (s.heap.objs.size + 1) :: (vs ++ dvs)) (Value.ref (s.heap.objs.size + 1) :: (us ++ ds)) := .cons rfl (r.append hd)
  have hl : (Value.ref (s.heap.objs.size + 1) :: us ++ ds).length = ps.length := (rr.length.symm.trans (Fo.len _ _ _ _ hq))
  have body := Fo.run _ X.stack _ _ ⟨Value.ref (s.heap.objs.size + 1) :: us, []⟩ (Value.ref (s.heap.objs.size + 1) :: (us ++ ds)) _ _ E (hr.make C us []) (J.env0.make C us []) (hb _ (Value.ref (s.heap.objs.size + 1) :: us) J.kIn hl) rr hq
  refine wpAny_call (make_map (f := fI) I.kIn M.makes M.init (beq_iff_eq.mp M.fn) (codeAny_mono body fun rs s' hq' => ?_))
  cases rs with
  | error er => exact hx pins _ _ er s' J hq'
  | ok fl =>
    cases fl with
    | ret u =>
      obtain ⟨v, H', J2, rv, ev, q3⟩ := J.after hq'
      rw [ev] at rv
      exact ⟨rv, ⟨V.ref (s.heap.objs.size + 1), H', J2, rfl, q3⟩⟩
    | next => exact hq'.elim
    | brk => exact hq'.elim
    | cont => exact hq'.elim
theorem make_sp {c : Cid} {g : Fn} {dv : List PV} {as : List Ar} {σ : L2.St} {H F : Hp} {ρ : Rh} {vs dvs : List V} {Q : VK} {r : Ou PV × Rh} {x dx : Addr} (s : Stt S φ ρ F σ H) (hr : ArsR S F σ as vs) (hd : Reps S F dv dvs) (e : make1 c g dv as ρ = some r)
    (o : OG S φ W F σ (fun y ρ' F' H' => ∀ p, Nw φ ρ' F' σ p → Top S F' H' p y → Q (.ref p) H') r) (hx : H x = none) (hdx : H dx = none) (ne : dx ≠ x) :
    spOf S g (.ref x :: (vs ++ dvs)) (upd (upd H dx (.own x)) x (.ins (S.ca c) dx [])) (fun v H2 => v = .non ∧ Q (.ref x) H2) (WE W σ) := by
  unfold make1 at e
  split at e
  case isFalse => cases e
  case isTrue hall =>
  have hown : ∀ i, i ∈ owns as → i < ρ.length := fun i hi => of_decide_eq_true (List.all_eq_true.mp hall i hi)
  obtain ⟨s1, _⟩ := s.newOwn (o := .own x) hdx
  obtain ⟨s2, nw⟩ := s1.newOwn (p := x) (o := .ins (S.ca c) dx []) (by rw [upd_ne (Ne.symm ne)]; exact hx)
  have tp : Top S F (upd (upd H dx (.own x)) x (.ins (S.ca c) dx [])) x (.obj c []) := ⟨dx, [], by rw [upd_same, List.zip_nil_right], Nat.zero_le _, rfl⟩
  have s3 := s2.more nw tp
  have h1 : ArsR S F (σ.take ρ.length ++ [some (.ref x)]) (.own ρ.length :: as) (.ref x :: vs) := by
    refine ⟨_, _, rfl, ?_, ArsR.more s.len hown hr⟩
    show (σ.take ρ.length ++ [some (V.ref x)])[ρ.length]? = some (some (.ref x))
    rw [List.getElem?_append_right (by rw [List.length_take]; omega), List.length_take, Nat.min_eq_left s.len, Nat.sub_self]
    rfl
  cases q : callG g dv (.own ρ.length :: as) (ρ ++ [.ow (.obj c [])]) with
  | none => rw [q] at e; cases e
  | some z =>
    rw [q] at e
    refine call_sp (W := fun cls d _ H' => W cls d σ H') (vs := .ref x :: vs) (Q := fun v H2 => v = .non ∧ Q (.ref x) H2) s3 h1 hd q ?_
    obtain ⟨a, ρ'⟩ := z
    -- the end: the slots without the one more
    have split_last : ∀ {ρ' : Rh}, ρ'.length = ρ.length + 1 → ∃ t, ρ' = ρ'.dropLast ++ [t] ∧ ρ'.getLast? = some t ∧ ρ'.dropLast.length = ρ.length := fun {ρ'} hl => by
      have hne : ρ' ≠ [] := fun z => by rw [z] at hl; simp at hl
      exact ⟨ρ'.getLast hne, (List.dropLast_concat_getLast hne).symm, List.getLast?_eq_some_getLast hne, by rw [List.length_dropLast]; omega⟩
    cases a with
    | ok sl =>
      intro F' H' s' m v rv
      cases sl with
      | pu y0 =>
        cases y0 with
        | non =>
          have rv : v = .non := rv
          refine ⟨rv, ?_⟩
          dsimp only at e
          cases ql : lastW ρ' with
          | none => rw [ql] at e; cases e
          | some y =>
            rw [ql] at e
            dsimp only at e
            split at e
            · rename_i hl
              cases e
              obtain ⟨t, h2, h3, h4⟩ := split_last hl
              unfold lastW at ql
              rw [h3] at ql
              cases t with
              | ow y' =>
                cases ql
                rw [h2] at s'
                have s5 := s'.less h4 s.len
                have at_ : (ρ'.dropLast ++ [Sl.ow y])[ρ.length]? = some (.ow y) := by rw [List.getElem?_append_right (by omega), h4, Nat.sub_self]; rfl
                have atσ : (σ.take ρ.length ++ [some (V.ref x)])[ρ.length]? = some (some (.ref x)) := by
                  rw [List.getElem?_append_right (by rw [List.length_take]; omega), List.length_take, Nat.min_eq_left s.len, Nat.sub_self]
                  rfl
                obtain ⟨p, g1, g2, g3, g4⟩ := s'.slot _ _ at_
                rw [atσ] at g1
                cases g1
                refine o F' H' s5 m x ⟨g2, g3, fun i t x' a b c => ?_⟩ g4
                have hi : i < ρ'.dropLast.length := (List.getElem?_eq_some_iff.mp a).1
                have hsl := s.len
                have := s'.sep i ρ.length t _ x' y x (by rw [List.getElem?_append_left hi]; exact a) at_ b (.ow y) (by
                  rw [List.getElem?_append_left (by rw [List.length_take]; omega), List.getElem?_take_of_lt (by omega)]
                  exact c) atσ
                omega
              | _ => cases ql
            · cases e
        | _ => cases e
      | _ => cases e
    | ex x0 =>
      dsimp only at e
      split at e
      · rename_i hl
        cases e
        intro F' H' s' m
        obtain ⟨t, h2, h3, h4⟩ := split_last hl
        rw [h2] at s'
        exact o F' H' (s'.less h4 s.len) m
      · cases e
theorem jn_make {c : Cid} {fI : Addr} {g : Fn} {dv : List PV} {x : Str} {p : Pos} (tk : Takes X W) (hK : X.K = S.K) (M : MakeOk X S c fI g dv) (hm : X.mg x = some (.ref (S.ca c))) (ha : JA X S φ W (e :: es) fs) (hg : Gl X x := by rfl)
    (hdb : (x == ("__debug__" : Str)) = false := by decide) (he : starEach (e :: es) X.env = (false, eval e X.env) :: starEach es X.env := by rfl) (hpl : (backTo pos (starEach es X.env)).any (·.1) = false := by rfl) :
    JN X S φ W (.Call (.Name x p) (e :: es) [] pos) (eMake c g dv fs) := by
  obtain ⟨k, fd, ps, ds, dvs, Fo, hr, hb, hd, hv⟩ := M.cal.ex
  refine ⟨fun pins s0 σ H Q I hq => ?_⟩
  obtain ⟨ρ, F, r, s, e1, o⟩ := hq
  obtain ⟨r1, e2, o2⟩ := OG.seq e1 o
  refine wpAny_Call_Name_kw (ld_glob I hg hm ?_ hdb)
  refine PySem.W.callWith_K (h₀ := X.base) I.ok.mod.kin (by rw [hK]; exact M.mks.kp) (thn (ha.run pos pins s0 σ H (fun vs H1 => ∃ as ρ1 F1 r2, Stt S φ ρ1 F1 σ H1 ∧ ArsR S F1 σ as vs ∧ make1 c g dv as ρ1 = some r2 ∧ OG S φ W F1 σ (fun y ρ' F' H' => ∀ p, Nw φ ρ' F' σ p → Top S F' H' p y → Q (.ref p) H') r2) I
    ⟨ρ, F, r1, s, e2, o2.imp fun as ρ1 F1 H1 s1 m1 ⟨r2, e3, o3⟩ vs hvs => ⟨as, ρ1, F1, r2, s1, hvs, e3, o3⟩⟩) fun us s1 hh => ?_) he hpl
  obtain ⟨vs, H1, I1, rv, as, ρ1, F1, r2, t1, hvs, e3, o3⟩ := hh
  exact ⟨I1.kIn, run_mk (by rw [hK]; exact M.mks) Fo hr hb hd (passAt tk σ) I1 rv fun x dx hx hdx ne => make_sp t1 hvs (hv F1) e3 o3 hx hdx ne⟩
structure ExcOk (S : Sg) (c : Cid) : Prop where
  ex : PySem.W.excIn S.K (S.ca c) [.type "ValueError", .type "Exception", .type "BaseException", .type "object"] "ValueError.__new__" = true
  kp : PySem.W.keepIn S.K (.ref (S.ca c)) = true
  sb : PySem.W.subIn S.K (.ref (S.ca c)) (.type "BaseException") = some true
  ty : PySem.W.typeIn S.K (.ref (S.ca c)) = some (.type "type")
def sRaise (c : Cid) : SS := fun ρ => some (.ex c, ρ)
theorem js_raise {c : Cid} {x m : Str} {j : Nat} {p p2 p3 : Pos} (hc : X.calm = true) (tk : Takes X W) (hK : X.K = S.K) (E : ExcOk S c) (gC : X.mg x = some (.ref (S.ca c))) (hg : Gl X x := by rfl) (hdb : (x == ("__debug__" : Str)) = false := by decide) :
    JS X S φ W (.Raise (some (.Call (.Name x p) [.Constant (.str m) j p2] [] p3)) none pos) (sRaise c) :=
  (ps_raise hc tk (pmk_own PySem.F.excBase_ValueError (by rw [hK]; exact E.ex) gC (by rw [hK]; exact E.kp) (raises_own (by rw [hK]; exact E.sb) (by rw [hK]; exact E.ty)) hg hdb)).imp fun D σ H ⟨ρ, F, r, s, e1, o⟩ => by
    cases e1
    exact o F σ H s (Same.refl _)

def rngP (lo : Int) (n : Nat) : List PV := (List.range n).map fun i : Nat => PV.int (lo + (i : Int))
theorem wk_rng {F : Hp} {lo : Int} {n : Nat} : Wk S F (rngP lo n) (Itr lo n) where
  go := fun i H s hi => show i < n by simpa [rngP] using hi
  stop := fun i H s hi => show n ≤ i by simpa [rngP] using hi
  yld := fun i F1 H v H' s1 s2 hi ⟨e, q⟩ => by
    subst e
    have hi : i < n := by simpa [rngP] using hi
    exact ⟨.int (lo + i), F1, by simp [rngP, hi], Gw.rfl' s2, q⟩
/-- (its instance is not to be reckoned by the kernel) -/
def RngB (k : Int) : Prop := -(2 ^ 62) ≤ k ∧ k < 2 ^ 62
noncomputable instance (k : Int) : Decidable (RngB k) := Classical.propDecidable _
theorem RngB.of {k : Int} (h1 : -1000000000 < k) (h2 : k < 1000000000) : RngB k := ⟨by omega, by omega⟩
noncomputable def iR1 (fp : SM (List PV)) : SM (List PV) := fp.bind fun xs => fun ρ => match xs with
  | [.int j] => if RngB j then some (.ok (rngP 0 j.toNat), ρ) else none
  | _ => none
theorem ji_range1 {tg : Expr} {p : Pos} (hm : X.mg "range" = none) (ha : JE X S φ W a fa) (hg : Gl X "range" := by rfl) (hs : starEach [a] X.env = [(false, eval a X.env)] := by rfl) : JI X S φ W tg (.Call (.Name "range" p) [a] [] pos) (iR1 (pCons fa pNil)) :=
  (pi_range1 hg hm (jp_cons ha jp_nil hs) hs).imp fun σ H R ⟨ρ, F, r, s, e1, o⟩ => by
    obtain ⟨r1, e2, o2⟩ := OG.seq e1 o
    refine ⟨ρ, F, r1, s, e2, o2.imp fun xs ρ1 F1 H1 s1 m1 ⟨r2, e3, o3⟩ vs hvs => ?_⟩
    dsimp only at e3
    split at e3
    · rename_i j
      split at e3
      · rename_i hj
        cases e3
        obtain ⟨v, rfl, hv⟩ := reps1 hvs
        have hv : v = .int _ := hv
        exact ⟨_, by rw [hv], hj.1, hj.2, o3 F1 H1 s1 (Same.refl _) _ wk_rng⟩
      · cases e3
    · cases e3
noncomputable def iR2 (fp : SM (List PV)) : SM (List PV) := fp.bind fun xs => fun ρ => match xs with
  | [.int i, .int j] => if RngB i ∧ RngB j then some (.ok (rngP i (j - i).toNat), ρ) else none
  | _ => none
def sPar (i j : Nat) (fp : SM (List PV)) : SS := sE fp fun xs => fun ρ => match xs with
  | [x, y] => (match gN i x ρ with
    | some ρ1 => (match gN j y ρ1 with
      | some ρ2 => some (.nx, ρ2)
      | none => none)
    | none => none)
  | _ => none
theorem js_par (i j : Nat) {x y : Str} {px py pt : Pos} {kt k2 : Nat} {pt2 : Pos} (hc : X.calm = true) (hN : X.N.Nodup) (ha : JE X S φ W a fa) (hb : JE X S φ W b fb) (hij : i ≠ j := by decide) (hi : X.N[i]? = some x := by rfl) (hj : X.N[j]? = some y := by rfl)
    (hx : X.env.scope.names.lookup x = some .local := by rfl) (hy : X.env.scope.names.lookup y = some .local := by rfl) (h1 : starEach [a, b] X.env = (false, eval a X.env) :: starEach [b] X.env := by rfl) (h2 : starEach [b] X.env = (false, eval b X.env) :: starEach [] X.env := by rfl)
    (hw : swappedStores [.Tuple [.Name x px, .Name y py] kt pt] (.Tuple [a, b] k2 pt2) X.env = pure (some [x, y]) := by rfl)
    (hs : swapsWithSole [.Tuple [.Name x px, .Name y py] kt pt] (.Tuple [a, b] k2 pt2) pos.line X.env = pure false := by rfl) :
    JS X S φ W (.Assign [.Tuple [.Name x px, .Name y py] kt pt] (.Tuple [a, b] k2 pt2) pos) (sPar i j (pCons fa (pCons fb pNil))) :=
  (ps_par hc hN hi hj hij hx hy (jp_cons ha (jp_cons hb jp_nil h2) h1) hw hs).imp fun D σ H ⟨ρ, F, r, s, e1, o⟩ => by
    obtain ⟨r1, e2, o2⟩ := OS.seqE (σ := σ) e1 o
    refine ⟨ρ, F, r1, s, e2, o2.imp fun xs ρ1 F1 H1 s1 m1 ⟨r2, e3, o3⟩ vs hvs => ?_⟩
    split at e3
    · rename_i x y hh
      cases q : gN i x ρ1 with
      | none => rw [q] at e3; cases e3
      | some ρ2 =>
        rw [q] at e3
        dsimp only at e3
        cases q2 : gN j y ρ2 with
        | none => rw [q2] at e3; cases e3
        | some ρ3 =>
          rw [q2] at e3
          cases e3
          obtain ⟨v, w, rfl, hv, hw⟩ := reps2 hvs
          refine ⟨v, w, rfl, ?_⟩
          unfold gN at q
          split at q
          · cases q
          · cases q
            unfold gN at q2
            split at q2
            · cases q2
            · cases q2
              exact o3 F1 _ H1 ((s1.setPu hv).setPu hw) (Same.refl _)
            · cases q2
          · cases q
    · cases e3
end
end Y


namespace Y
open PySem PySem.Spec L2
open PyProof.Rows (envOfC)

def cname : Cid → Str
  | .SaleError => "SaleError" | .InvalidAmount => "InvalidAmount" | .InvalidUrn => "InvalidUrn" | .InvalidRule => "InvalidRule" | .InvalidFact => "InvalidFact" | .InvalidShare => "InvalidShare" | .NotFit => "NotFit"
  | .TooMany => "TooMany" | .InvalidOffer => "InvalidOffer" | .SaleOver => "SaleOver" | .NothingToUndo => "NothingToUndo" | .InvalidText => "InvalidText" | .InvalidCommand => "InvalidCommand" | .NotReady => "NotReady"
  | .Amount => "Amount" | .Urn => "Urn" | .Rule => "Rule" | .Threshold => "Threshold" | .Falling => "Falling" | .After => "After" | .Balance => "Balance" | .Fact => "Fact" | .Sale => "Sale" | .Console => "Console" | .Other => "_other"
def sgOf (K : PySem.W.Frag) : Sg := ⟨K, fun c => He.ga K (cname c)⟩

/-- a fact that the kernel reckons -/
abbrev Kf := PySem.W.Frag → Bool
def dec (p : PySem.W.Frag → Prop) [∀ K, Decidable (p K)] : Kf := fun K => decide (p K)
def kGlo (x : Str) : Kf := (He.Fa.glo x).ok
def kFree (x : Str) : Kf := fun K => He.Fa.ok K (.free x)
def fK (f : He.Fa) : Kf := fun K => f.ok K
/-- the class is plain, and isinstance reads it -/
def kCls (c : Cid) : Kf := fun K => He.Fa.ok K (.cls (cname c)) && (He.eqO (PySem.W.findIn K (.ref (He.ga K (cname c))) "__class__") (some (some (.builtin "object.__class__"))) &&
  (He.eqO (PySem.W.specialIn K (.builtin "object.__class__") "__get__") (some (some (.builtin "getset_descriptor.__get__"))) && (decide (PySem.W.takesIn K (.builtin "object.__class__") = some true) && decide (PySem.W.mroIn K (He.ga K (cname c)) (.type "object") = some true))))
theorem kCls_ok {K : PySem.W.Frag} {c : Cid} (h : kCls c K = true) : ClsOk (sgOf K) c := by
  obtain ⟨h1, h⟩ := He.ba h
  obtain ⟨h2, h⟩ := He.ba h
  obtain ⟨h3, h⟩ := He.ba h
  obtain ⟨h4, h5⟩ := He.ba h
  exact ⟨He.cls_ok h1, He.eqO_ok h2, He.eqO_ok h3, of_decide_eq_true h4, of_decide_eq_true h5⟩
/-- where a class's attribute stands -/
def pa (K : PySem.W.Frag) (c : Cid) (f : Str) : Addr := He.ma K (He.ga K (cname c)) f
/-- a property's getter -/
def pg (K : PySem.W.Frag) (c : Cid) (f : Str) : Addr := match PySem.W.recIn K (pa K c f) "property" with
  | some (.ref g :: _) => g
  | _ => 0
def kProp (c : Cid) (f : Str) : Kf := fun K => He.eqO (PySem.W.findIn K (.ref (He.ga K (cname c))) f) (some (some (.ref (pa K c f)))) && (He.eqO (PySem.W.specialIn K (.ref (pa K c f)) "__get__") (some (some (.builtin "property.__get__"))) &&
  (decide (PySem.W.takesIn K (.ref (pa K c f)) = some true) && (match PySem.W.recIn K (pa K c f) "property" with
    | some (.ref _ :: _) => true
    | _ => false)))
theorem kProp_ok {K : PySem.W.Frag} {c : Cid} {f : Str} (h : kProp c f K = true) : PropOf K (He.ga K (cname c)) f (pa K c f) (pg K c f) := by
  obtain ⟨h1, h⟩ := He.ba h
  obtain ⟨h2, h⟩ := He.ba h
  obtain ⟨h3, h4⟩ := He.ba h
  refine ⟨He.eqO_ok h1, He.eqO_ok h2, of_decide_eq_true h3, ?_⟩
  unfold pg
  split at h4
  · rename_i g r q
    rw [q]
    exact ⟨r, rfl⟩
  · cases h4

/-- where a def stands: a module's name; a class's method; a class's property's getter -/
inductive Wh where
  | fn (x : Str) | mt (c : Cid) (m : Str) | pr (c : Cid) (m : Str)
def Wh.ad (K : PySem.W.Frag) : Wh → Addr
  | .fn x => He.ga K x
  | .mt c m => pa K c m
  | .pr c m => pg K c m
/-- a def of the text: where, its qualified name, its statement, its defaults -/
structure Df where
  wh : Wh
  name : Str
  qual : Str
  st : Stmt
  dfl : List He.Dv := []
  kwd : List (Str × He.Dv) := []
def Df.val (d : Df) : He.FnW := some (d.name, d.qual, defArgs d.st, .stmts (defBody d.st), defScope d.st, mainGlobals, [], builtinsNs)
def dfW (K : PySem.W.Frag) (d : Df) : He.FnW := match K.lookup (d.wh.ad K) with
  | some ⟨_, _, .func fd, _⟩ => some (fd.name, fd.qualname, fd.params, fd.body, fd.scope, fd.globals, fd.closure, fd.builtins)
  | _ => none
def Df.ok (K : PySem.W.Frag) (d : Df) : Bool := PySem.W.keepIn K (.ref (d.wh.ad K)) && (match K.lookup (d.wh.ad K) with
  | some ⟨_, _, .func fd, _⟩ => PySem.W.codeIn K fd.code d.qual && (He.dflB K fd.defaults (d.dfl.map (He.Dv.v K)) && He.kwdB K fd.kwdefaults (d.kwd.map fun q => (q.1, q.2.v K)))
  | _ => false)
abbrev DfD (K : PySem.W.Frag) (d : Df) (fd : FuncData) : Prop := FunD K d.name d.qual (defArgs d.st) (defBody d.st) (defScope d.st) (d.dfl.map (He.Dv.v K)) (d.kwd.map fun q => (q.1, q.2.v K)) (d.wh.ad K) fd
theorem Df.funD {K : PySem.W.Frag} {d : Df} (e : dfW K d = d.val) (c : d.ok K = true) : ∃ fd, DfD K d fd := by
  obtain ⟨kp, c2⟩ := He.ba c
  unfold dfW at e
  cases q : K.lookup (d.wh.ad K) with
  | none =>
    rw [q] at c2
    cases c2
  | some o =>
    obtain ⟨oc, od, dt, osl⟩ := o
    rw [q] at c2 e
    cases dt with
    | func fd =>
      obtain ⟨n1, n2, n3, n4, n5, n6, n7, n8, n9, n10, n11, n12, n13, n14, n15⟩ := fd
      have e2 : (some (n1, n2, n3, n4, n5, n6, n7, n15) : He.FnW) = some (d.name, d.qual, defArgs d.st, .stmts (defBody d.st), defScope d.st, mainGlobals, [], builtinsNs) := e
      simp only [Option.some.injEq, Prod.mk.injEq] at e2
      obtain ⟨h1, h2, h3, h4, h5, h6, h7, h8⟩ := e2
      subst h1 h2 h3 h4 h5 h6 h7 h8
      obtain ⟨k1, k2⟩ := He.ba (show (PySem.W.codeIn K n13 d.qual && (He.dflB K n8 (d.dfl.map (He.Dv.v K)) && He.kwdB K n9 (d.kwd.map fun q => (q.1, q.2.v K)))) = true from c2)
      obtain ⟨k3, k4⟩ := He.ba k2
      exact ⟨_, ⟨oc, od, n8, n9, n10, n11, n12, n13, n14, osl, rfl, q, k1, He.dflB_ok k3, He.kwdB_ok k4⟩, kp⟩
    | _ => cases c2

abbrev AlY : Type := Bool × List He.FnW
def obsY (fb : List Kf) (fn : List Df) (K : PySem.W.Frag) : AlY := ((fb.all fun f => f K) && fn.all fun d => d.ok K, fn.map fun d => dfW K d)
def valY (fn : List Df) : AlY := (true, fn.map Df.val)
def SaysY (fb : List Kf) (fn : List Df) (K : PySem.W.Frag) : Prop := obsY fb fn K = valY fn
def obsYG (n : Nat) (fb : List Kf) (fn : List Df) (g : Addr → Option Obj) : AlY := obsY fb fn (He.frG g (He.asD g n))
def hookY (n : Nat) (fb : List Kf) (fn : List Df) : PySem.W.Hook where
  α := AlY
  obs := fun s => obsYG n fb fn s.heap.get?
  val := fun _ => valY fn
  says := fun _ h => ∃ K : PySem.W.Frag, K.In h ∧ SaysY fb fn K
  of := fun _ _ e => ⟨_, He.frG_in, e⟩
  keeps := fun _ _ _ ⟨K, hK, c⟩ k => ⟨K, PySem.W.Frag.In.keeps hK k, c⟩
theorem obsYG_eq {n : Nat} {fb : List Kf} {fn : List Df} {g : Addr → Option Obj} {s : Shared} (h : ∀ a, g a = s.heap.get? a) : obsYG n fb fn g = (hookY n fb fn).obs s := by
  have e : g = s.heap.get? := funext h
  rw [e] <;> rfl
section
variable {fb : List Kf} {fn : List Df} {K : PySem.W.Frag}
theorem SaysY.fact (c : SaysY fb fn K) (i : Nat) {f : Kf} (h : fb[i]? = some f := by rfl) : f K = true := by
  have c1 := (He.ba (show ((fb.all fun f => f K) && fn.all fun d => d.ok K) = true from congrArg (fun z : AlY => z.1) c)).1
  exact List.all_eq_true.mp c1 f (List.mem_of_getElem? h)
theorem SaysY.def_ (c : SaysY fb fn K) (i : Nat) {d : Df} (h : fn[i]? = some d := by rfl) : ∃ fd, DfD K d fd := by
  have c2 := (He.ba (show ((fb.all fun f => f K) && fn.all fun d => d.ok K) = true from congrArg (fun z : AlY => z.1) c)).2
  have e : fn.map (fun d => dfW K d) = fn.map Df.val := congrArg (fun z : AlY => z.2) c
  have e2 : (fn.map fun d => dfW K d)[i]? = (fn.map Df.val)[i]? := by rw [e]
  rw [List.getElem?_map, List.getElem?_map, h] at e2
  exact Df.funD (Option.some.inj e2) (List.all_eq_true.mp c2 d (List.mem_of_getElem? h))
end

structure Dn (P : Program) (w : World) (S : Sg) (mg : Str → Option Value) (base : Heap) (k : Nat) (f : Addr) (dv : List PV) (g : Fn) : Prop where
  kp : PySem.W.keepIn S.K (.ref f) = true
  ex : ∃ (fd : FuncData) (ps : List Str) (ds : List Value) (dvs : List V), FnOk P w S.K mg base (L2.CX P w) k f fd ps (spOf S g) ∧ Binds S.K fd ps ds ∧ Vals dvs ds ∧ ∀ F, Reps S F dv dvs
theorem Dn.cal {P : Program} {w : World} {S : Sg} {mg : Str → Option Value} {base : Heap} {k j : Nat} {f : Addr} {dv : List PV} {g : Fn} {X : Cx} (D : Dn P w S mg base k f dv g) (hr : Room j X.A) (hk : k + 1 ≤ j := by decide)
    (h1 : X.prog = P := by rfl) (h2 : X.w = w := by rfl) (h3 : X.K = S.K := by rfl) (h4 : X.mg = mg := by rfl) (h5 : X.base = base := by rfl) : Cal X S f dv g := by
  obtain ⟨fd, ps, ds, dvs, F, b, v, r⟩ := D.ex
  subst h1 h2 h4 h5
  refine ⟨k, fd, ps, ds, dvs, ?_, hr.mono hk, by rw [h3]; exact b, v, r⟩
  rw [h3]
  exact F
end Y


namespace Y
open PySem PySem.Spec L2
open PyProof.Rows (envOfC)

def bnames : List String := ["NoneType", "bool", "int", "str", "list", "tuple", "dict"]
/-- own classes: all are SaleErrors or plain; a rule is a Rule -/
def subC : Cid → Cid → Bool
  | .Threshold, .Rule => true
  | .Falling, .Rule => true
  | .After, .Rule => true
  | _, _ => false
def isiT (cs : List Cid) : Tg → PV → Option Bool
  | .b n, .ty m => if n ∈ bnames ∧ m ∈ bnames then some (decide (n = m) || (decide (n = "bool") && decide (m = "int"))) else none
  | .b n, .cls c => if n ∈ bnames ∧ c ∈ cs then some false else none
  | .c c, .ty m => if c ∈ cs ∧ m ∈ bnames then some false else none
  | .c c, .cls d => if c ∈ cs ∧ d ∈ cs then some (decide (c = d) || subC c d) else none
  | _, _ => none
def kIsi (cs : List Cid) : Kf := fun K =>
  (bnames.all fun n => bnames.all fun m => decide (PySem.W.kitOne K (.type n) (.type m) = some (decide (n = m) || (decide (n = "bool") && decide (m = "int"))))) &&
  ((bnames.all fun n => cs.all fun c => decide (PySem.W.kitOne K (.type n) (.ref (He.ga K (cname c))) = some false)) &&
  ((bnames.all fun n => cs.all fun c => decide (PySem.W.kitOne K (.ref (He.ga K (cname c))) (.type n) = some false)) &&
  ((cs.all fun c => cs.all fun d => decide (PySem.W.kitOne K (.ref (He.ga K (cname c))) (.ref (He.ga K (cname d))) = some (decide (c = d) || subC c d))) && cs.all fun c => kCls c K)))
theorem kIsi_ok {K : PySem.W.Frag} {cs : List Cid} (h : kIsi cs K = true) : Isi (sgOf K) cs (isiT cs) := by
  obtain ⟨h1, h⟩ := He.ba h
  obtain ⟨h2, h⟩ := He.ba h
  obtain ⟨h3, h⟩ := He.ba h
  obtain ⟨h4, h5⟩ := He.ba h
  refine ⟨fun c hc => kCls_ok (List.all_eq_true.mp h5 c hc), fun c y k e => ?_, fun t y k e => ?_⟩
  · unfold isiT at e
    cases y with
    | ty m =>
      dsimp only at e
      split at e
      · rename_i q; exact q.1
      · cases e
    | cls d =>
      dsimp only at e
      split at e
      · rename_i q; exact q.1
      · cases e
    | _ => cases e
  · unfold isiT at e
    cases t with
    | b n =>
      cases y with
      | ty m =>
        dsimp only at e
        split at e
        · rename_i q
          cases e
          exact .inl ⟨m, rfl, of_decide_eq_true (List.all_eq_true.mp (List.all_eq_true.mp h1 n q.1) m q.2)⟩
        · cases e
      | cls c =>
        dsimp only at e
        split at e
        · rename_i q
          cases e
          exact .inr ⟨c, rfl, of_decide_eq_true (List.all_eq_true.mp (List.all_eq_true.mp h2 n q.1) c q.2)⟩
        · cases e
      | _ => cases e
    | c c0 =>
      cases y with
      | ty m =>
        dsimp only at e
        split at e
        · rename_i q
          cases e
          exact .inl ⟨m, rfl, of_decide_eq_true (List.all_eq_true.mp (List.all_eq_true.mp h3 m q.2) c0 q.1)⟩
        · cases e
      | cls d =>
        dsimp only at e
        split at e
        · rename_i q
          cases e
          exact .inr ⟨d, rfl, of_decide_eq_true (List.all_eq_true.mp (List.all_eq_true.mp h4 c0 q.1) d q.2)⟩
        · cases e
      | _ => cases e

def atL (l : List (Cid × At)) : Cid → Option At := fun c => l.lookup c
def mtT (l : List (Cid × (Fn × List PV))) : Cid → Option (Fn × List PV) := fun c => l.lookup c
def fiL (l : List (Cid × Nat)) : Cid → Option Nat := fun c => l.lookup c
section
variable {X : Cx} {S : Sg} {n : Str}
theorem at_nil : ∀ c a, atL [] c = some a → AttOk X S n c a := fun c a e => by cases e
theorem at_cons {c0 : Cid} {a0 : At} {l : List (Cid × At)} (h : AttOk X S n c0 a0) (t : ∀ c a, atL l c = some a → AttOk X S n c a) : ∀ c a, atL ((c0, a0) :: l) c = some a → AttOk X S n c a := fun c a e => by
  unfold atL at e
  rw [List.lookup_cons] at e
  split at e
  · rename_i q
    cases e
    have q2 := beq_iff_eq.mp q
    subst q2
    exact h
  · exact t c a e
theorem fi_nil : ∀ c j, fiL [] c = some j → AttOk X S n c (.fld j) := fun c a e => by cases e
theorem fi_cons {c0 : Cid} {j0 : Nat} {l : List (Cid × Nat)} (h : AttOk X S n c0 (.fld j0)) (t : ∀ c j, fiL l c = some j → AttOk X S n c (.fld j)) : ∀ c j, fiL ((c0, j0) :: l) c = some j → AttOk X S n c (.fld j) := fun c a e => by
  unfold fiL at e
  rw [List.lookup_cons] at e
  split at e
  · rename_i q
    cases e
    have q2 := beq_iff_eq.mp q
    subst q2
    exact h
  · exact t c a e
end
end Y


namespace Y
open PySem PySem.Spec L2
open PyProof.Rows (envOfC)

def callT (g : Fn) (dv : List PV) (x : PV) : SM Sl := fun ρ => match callG g dv [.own ρ.length] (ρ ++ [.ow x]) with
  | some (r, ρ') => if ρ'.length = ρ.length + 1 then some (r, ρ'.dropLast) else none
  | none => none
def eCallT (g : Fn) (dv : List PV) (fa : SE) : SM Sl := fa.bind (callT g dv)
section
variable {X : Cx} {S : Sg} {φ : Fr} {W : WX} {e a b c : Expr} {es : List Expr} {f fa fb fc : SE} {pos : Pos}
theorem callT_sp {g : Fn} {dv : List PV} {σ : L2.St} {H F : Hp} {ρ : Rh} {dvs : List V} {Q : VK} {r : Ou Sl × Rh} {y : PV} {x : Addr} (s : Stt S φ ρ F σ H) (nw : Nw φ ρ F σ x) (tp : Top S F H x y) (hd : Reps S F dv dvs) (e : callT g dv y ρ = some r)
    (o : OG S φ W F σ (fun sl ρ' F' H' => ∀ v, RtV S φ ρ' F' σ H' sl v → Q v H') r) : spOf S g ([.ref x] ++ dvs) H Q (WE W σ) := by
  unfold callT at e
  have s3 := s.more nw tp
  have h1 : ArsR S F (σ.take ρ.length ++ [some (.ref x)]) [.own ρ.length] [.ref x] := by
    refine ⟨_, _, rfl, ?_, rfl⟩
    show (σ.take ρ.length ++ [some (V.ref x)])[ρ.length]? = some (some (.ref x))
    rw [List.getElem?_append_right (by rw [List.length_take]; have := s.len; omega), List.length_take, Nat.min_eq_left s.len, Nat.sub_self]
    rfl
  cases q : callG g dv [.own ρ.length] (ρ ++ [.ow y]) with
  | none => rw [q] at e; cases e
  | some z =>
    rw [q] at e
    refine call_sp (W := fun cls d _ H' => W cls d σ H') (vs := [.ref x]) (Q := Q) s3 h1 hd q ?_
    obtain ⟨a, ρ'⟩ := z
    dsimp only at e
    split at e
    case isFalse => cases e
    case isTrue hl =>
    cases e
    have hne : ρ' ≠ [] := fun z => by rw [z] at hl; simp at hl
    have h2 : ρ' = ρ'.dropLast ++ [ρ'.getLast hne] := (List.dropLast_concat_getLast hne).symm
    have h4 : ρ'.dropLast.length = ρ.length := by rw [List.length_dropLast]; omega
    cases a with
    | ok sl =>
      intro F' H' s' m v rv
      rw [h2] at s' rv
      refine o F' H' (s'.less h4 s.len) m v ?_
      cases sl with
      | pu z => exact rv
      | ow z =>
        obtain ⟨p, e1, ⟨n1, n2, n3⟩, e3⟩ := rv
        refine ⟨p, e1, ⟨n1, n2, fun i t w h5 h6 h7 => ?_⟩, e3⟩
        have hi : i < ρ'.dropLast.length := (List.getElem?_eq_some_iff.mp h5).1
        refine n3 i t w (by rw [List.getElem?_append_left hi]; exact h5) h6 ?_
        rw [List.getElem?_append_left (by rw [List.length_take]; have := s.len; omega), List.getElem?_take_of_lt (by omega)]
        exact h7
      | io z =>
        refine TwR.imp (fun q ⟨n1, n2, n3⟩ => ⟨n1, n2, fun i t w h5 h6 h7 => ?_⟩) rv
        have hi : i < ρ'.dropLast.length := (List.getElem?_eq_some_iff.mp h5).1
        refine n3 i t w (by rw [List.getElem?_append_left hi]; exact h5) h6 ?_
        rw [List.getElem?_append_left (by rw [List.length_take]; have := s.len; omega), List.getElem?_take_of_lt (by omega)]
        exact h7
      | _ => exact rv
    | ex c =>
      intro F' H' s' m
      rw [h2] at s'
      exact o F' H' (s'.less h4 s.len) m
/-- f(a), a new -/
theorem jr_callT {fA : Addr} {dv : List PV} {g : Fn} {x : Str} {p : Pos} (tk : Takes X W) (C : Cal X S fA dv g) (hm : X.mg x = some (.ref fA)) (hk : PySem.W.keepIn X.K (.ref fA) = true) (ha : JN X S φ W a fa) (hg : Gl X x := by rfl)
    (hdb : (x == ("__debug__" : Str)) = false := by decide) (he : starEach [a] X.env = (false, eval a X.env) :: starEach [] X.env := by rfl) (hpl : (backTo pos (starEach [] X.env)).any (·.1) = false := by rfl) :
    JR X S φ W (.Call (.Name x p) [a] [] pos) (eCallT g dv fa) := by
  obtain ⟨k, fd, ps, ds, dvs, F, hr, hb, hd, hv⟩ := C.ex
  refine (pe_callSD F (hr.mono (Nat.le_succ k)) hg hm hk hb hd (fun σ => passAt tk σ) (pa_cons ha pa_nil he) hdb he hpl).imp fun σ H Q ⟨ρ, F, r, s, e1, o⟩ => ?_
  obtain ⟨r1, e2, o2⟩ := OG.seq e1 o
  exact ⟨ρ, F, r1, s, e2, o2.imp fun y ρ1 F1 H1 s1 m1 ⟨r2, e3, o3⟩ p nw tp => callT_sp s1 nw tp (hv F1) e3 o3⟩
end

/-- the answer of a law's def at ns is True -/
def Tru (g : Fn) (ns : List Int) : Prop := ∃ args', g [.pu (.lst (ns.map .int))] = some (.ok (.pu (.bl true)), args')
theorem reps_ints {S : Sg} {F : Hp} : ∀ (ns : List Int), Reps S F (ns.map .int) (ns.map V.int)
  | [] => rfl
  | n :: ns => ⟨V.int n, ns.map V.int, rfl, rfl, reps_ints ns⟩
theorem sp_law {S : Sg} {g : Fn} {ns : List Int} {H : Hp} {a : Addr} (h : Tru g ns) (hS : SqL S.K H a (ns.map V.int)) : spOf S g [.ref a] H (fun v _ => v = .bl true) fun _ _ _ => False := by
  obtain ⟨args', e⟩ := h
  refine ⟨H, [.pu (.lst (ns.map .int))], _, Same.refl _, ⟨.ref a, [], rfl, ⟨a, _, rfl, hS, reps_ints ns⟩, rfl⟩, fun i j p h1 h2 => ?_, e, fun v F' H' af rv => rv⟩
  obtain ⟨x, y, _⟩ := pinOf_get h1
  cases i with
  | zero => cases y
  | succ i => simp at y
end Y


namespace Y
open PySem PySem.Spec L2
open PyProof.Rows (envOfC)

/-- so many turns as the number in slot i tells, and one -/
def fuI (i : Nat) : Rh → Nat := fun ρ => match ρ[i]? with
  | some (.pu (.int n)) => n.natAbs + 1
  | _ => 0
/-- the j-th method of a class's statement -/
def meth (s : Stmt) (j : Nat) : Stmt := match s with
  | .ClassDef _ _ _ b _ _ _ _ _ _ _ => b.getD j (.Pass ⟨0, 0, 0, 0⟩)
  | _ => .Pass ⟨0, 0, 0, 0⟩
theorem tk_cx {P : Program} {w : World} {K : PySem.W.Frag} {mg : Str → Option Value} {base : Heap} {N : List Str} {qual : Str} {scope : Scope} {f : Addr} {cdv : Value} {A : Around} {outer : List PySem.Env} {s : Shared} {H : Hp} {E : XK} :
    Takes (cxOf (L2.CX P w) P w K mg base N qual scope f cdv A outer s H E) (fun cls d _ H' => E cls d H') := takes_of rfl rfl rfl rfl
theorem hp_cx {P : Program} {w : World} {K : PySem.W.Frag} {mg : Str → Option Value} {base : Heap} {N : List Str} {qual : Str} {scope : Scope} {f : Addr} {cdv : Value} {A : Around} {outer : List PySem.Env} {s : Shared} {H : Hp} {E : XK} :
    PassesOwn (model (cxOf (L2.CX P w) P w K mg base N qual scope f cdv A outer s H E).prog (cxOf (L2.CX P w) P w K mg base N qual scope f cdv A outer s H E).w) (cxOf (L2.CX P w) P w K mg base N qual scope f cdv A outer s H E).A (cxOf (L2.CX P w) P w K mg base N qual scope f cdv A outer s H E).env (cxOf (L2.CX P w) P w K mg base N qual scope f cdv A outer s H E).xe := passes_of rfl
/-- what a def's body means -/
def BodyOk (P : Program) (w : World) (S : Sg) (mg : Str → Option Value) (base : Heap) (k : Nat) (N : List Str) (d : Df) (b : SS) : Prop :=
  ∀ (cdv : Value) (A : Around) (outer : List PySem.Env) (s : Shared) (H : Hp) (E : XK) (φ : Fr), Room k (A.deeper (envOfC d.qual (defScope d.st) s.heap.objs.size (d.wh.ad S.K) cdv)) → (∀ p, p ∈ φ.own → φ.H p ≠ none) →
      JSs (cxOf (L2.CX P w) P w S.K mg base N d.qual (defScope d.st) (d.wh.ad S.K) cdv A outer s H E) S φ (fun cls d _ H' => E cls d H') (defBody d.st) b
theorem dn_all {P : Program} {w : World} {S : Sg} {mg : Str → Option Value} {base : Heap} {k n : Nat} {N ps : List Str} {b : SS} {d : Df} (Fd : ∃ fd, DfD S.K d fd) (hd : d.dfl = []) (Sc : FnScope N ps (defScope d.st)) (hn : ps.length + n = N.length)
    (hb : ∀ (kV doc pm : Value) (an : Option Addr) (cdv ct : Value) (us : List Value), us.length = ps.length → bindArgs (PySem.W.fnOf d.name d.qual (defArgs d.st) (defBody d.st) (defScope d.st) .none kV doc pm an cdv ct) ⟨us, []⟩ = pure (ps.zip us))
    (h : BodyOk P w S mg base k N d b) : Dn P w S mg base (k + 1) (d.wh.ad S.K) [] (fnOf ps.length n b) := by
  obtain ⟨fd, Fd⟩ := Fd
  have Fd' : FunD S.K d.name d.qual (defArgs d.st) (defBody d.st) (defScope d.st) [] (d.kwd.map fun q => (q.1, q.2.v S.K)) (d.wh.ad S.K) fd := by
    have q := Fd
    unfold DfD at q
    rw [hd] at q
    exact q
  exact ⟨Fd.kp, fd, ps, [], [], fn_sem Fd Sc hn h, Fd'.bindsN hb, .nil, fun _ => rfl⟩
/-- its last parameters have defaults: m are given -/
theorem dn_dfl {P : Program} {w : World} {S : Sg} {mg : Str → Option Value} {base : Heap} {k n : Nat} {N ps : List Str} {b : SS} {d : Df} (Fd : ∃ fd, DfD S.K d fd) (m j : Nat) (dv : List PV) (hd : d.dfl.map (He.Dv.v S.K) ≠ []) (hm : m + ((d.dfl.map (He.Dv.v S.K)).length - j) = ps.length)
    (hdv : ∀ F, Reps S F dv ((d.dfl.map (He.Dv.v S.K)).drop j)) (Sc : FnScope N ps (defScope d.st)) (hn : ps.length + n = N.length)
    (hb : ∀ (T : Addr) (kV doc pm : Value) (an : Option Addr) (cdv ct : Value) (us its : List Value), us.length = m → its.length = (d.dfl.map (He.Dv.v S.K)).length →
      ∃ k, bindArgs (PySem.W.fnOf d.name d.qual (defArgs d.st) (defBody d.st) (defScope d.st) (.ref T) kV doc pm an cdv ct) ⟨us, []⟩ = seqItems? (.ref T) >>= k ∧ k (some its.toArray) = pure (ps.zip (us ++ its.drop j)))
    (h : BodyOk P w S mg base k N d b) : Dn P w S mg base (k + 1) (d.wh.ad S.K) dv (fnOf ps.length n b) := by
  obtain ⟨fd, Fd⟩ := Fd
  obtain ⟨ds, h1, h2⟩ := Fd.binds1 m j hd hm hb
  exact ⟨Fd.kp, fd, ps, ds, _, fn_sem Fd Sc hn h, h2, h1, hdv⟩

variable {P : Program} {w : World} {K : PySem.W.Frag} {mg : Str → Option Value} {base : Heap}
theorem fld_ok {c : Cid} {j : Nat} {f : Str} {X : Cx} (h : kCls c K = true) (hn : fK (.noat (cname c) f) K = true) (hj : (flds c)[j]? = some f := by rfl) : AttOk X (sgOf K) f c (.fld j) :=
  ⟨(kCls_ok h).cls, He.noat_ok hn, hj⟩
theorem prop_ok {c : Cid} {f : Str} {X : Cx} {g : Fn} (h : kCls c K = true) (hp : kProp c f K = true) (C : Cal X (sgOf K) (pg K c f) [] g) : AttOk X (sgOf K) f c (.prop g) :=
  ⟨(kCls_ok h).cls, _, _, kProp_ok hp, C⟩
theorem meth_ok {c : Cid} {m : Str} {X : Cx} {g : Fn} {dv : List PV} (h : kCls c K = true) (hm : fK (.meth (cname c) m) K = true) (C : Cal X (sgOf K) (pa K c m) dv g) (hn : m ∉ flds c := by decide) : MethOk X (sgOf K) m c g dv :=
  ⟨(kCls_ok h).cls, hn, _, He.meth_ok hm, C⟩
theorem make_ok {c : Cid} {X : Cx} {g : Fn} {dv : List PV} (h : fK (.mkr (cname c)) K = true) (C : Cal X (sgOf K) (pa K c "__init__") dv g) : MakeOk X (sgOf K) c (pa K c "__init__") g dv :=
  ⟨He.mkr_ok h, C⟩
theorem exc_ok {c : Cid} (h : fK (.exc (cname c)) K = true) : ExcOk (sgOf K) c := by
  obtain ⟨h1, h2, h3, h4⟩ := He.exc_ok h
  exact ⟨h1, h2, h3, h4⟩
end Y
namespace Y
open PySem PySem.Spec L2 PyProof.Rows
/-- a law's end: its def means g, and g is True at each script -/
theorem walkY {l : PySem.W.OpenLaw} {n k : Nat} {q : Program} {loose : List Str} {XP : (Str → Option Value) → Heap → Prop} {YP : World → Heap → Prop} {d : DefRec} {x : Str} {g : Fn}
    (hn : l.most = some n) (hsz : n ≤ sizeLine) (hdf : d.params.defaults = []) (hr : Room k callerA)
    (hT : ∀ ns : List Int, ns.length ≤ n → (∀ i ∈ ns, Builtin.Int.intBits i ≤ 1048576) → Tru g ns)
    (F : ∀ (w : World) (mg : Str → Option Value) (fa : Addr) (h : Heap), YP w h → h.Ns mainGlobals mg → mg d.name = some (.ref fa) →
      ∃ (K : PySem.W.Frag) (fd : FuncData), K.In h ∧ (∀ (s : Shared) (u : Value), BindsTo s fd ⟨[u], []⟩ [(x, u)]) ∧ ∀ base : Heap, K.In base → base.Ns mainGlobals mg → FnOk l.prog w K mg base (L2.CX l.prog w) k fa fd [x] (spOf (sgOf K) g)) : PySem.W.WalkO q loose XP YP l.row.toRowW d [] (fun f vs => PySem.call f vs) := by
  refine Att.attach_callB hn hdf fun w s₀ s₁ mg mb fa o pm cd doc a vs ns G Y ho hd hcd hmg hobj hints hlen hbits hg => ?_
  obtain ⟨K, fd, KX, hb, hF⟩ := F w mg fa _ Y G.T.g hmg
  exact law_call KX G.T.g G.T.b G.T.builtins G.T.nolimit hg hobj hints (Nat.le_trans hlen hsz) hr hF hb (fun H _ hS => sp_law (hT ns hlen hbits) hS) fun H e s' ⟨_, _, _, _, _, _, _, _, _, _, _, _, h⟩ => h
end Y

namespace Y
open PySem PySem.Spec L2
def tyNs : List String := ["NoneType", "bool", "int", "str"]
def kFst (c : Cid) : Kf := fun K => PySem.W.selfFirst K (He.ga K (cname c))
def refO : Option (Option Value) → Bool
  | some none => true
  | some (some (.ref _)) => true
  | _ => false
def refS : Option (Option Value) → Bool
  | some (some (.ref _)) => true
  | _ => false
def kBinI (o : Operator) (c : Cid) : Kf := fun K => refO (PySem.W.findIn K (.ref (He.ga K (cname c))) (dunderR o.info.2)) && ((PySem.W.findIn K (.type "int") (PySem.dunder o.info.2)).isSome &&
  ((PySem.W.findIn K (.type "int") (dunderR o.info.2)).isSome && decide (PySem.W.subIn K (.type "int") (.ref (He.ga K (cname c))) = some false)))
def kOwn (o : Operator) (c : Cid) : Kf := fun K => refS (PySem.W.findIn K (.ref (He.ga K (cname c))) (PySem.dunder o.info.2))
def kSubI (c : Cid) : Kf := fun K => decide (PySem.W.subIn K (.ref (He.ga K (cname c))) (.type "int") = some false)
def kSubs (c : Cid) : Kf := fun K => decide (PySem.W.subIn K (.ref (He.ga K (cname c))) (.type "NoneType") = some false) && tyNs.all fun n => decide (PySem.W.subIn K (.type n) (.ref (He.ga K (cname c))) = some false)
def kNoIn (o : Operator) (c : Cid) : Kf := fun K => (match PySem.W.clsIn K (He.ga K (cname c)) with
  | some cd => decide (cd.mro = [.ref (He.ga K (cname c)), .type "object"])
  | none => false) && (decide (PySem.W.findIn K (.ref (He.ga K (cname c))) (dunderI o.info.2) = some none) && decide (PySem.W.findIn K (.type "object") (dunderI o.info.2) = some none))
def kNoHint (c : Cid) : Kf := fun K => decide (PySem.W.findIn K (.ref (He.ga K (cname c))) "__len__" = some none) && decide (PySem.W.findIn K (.ref (He.ga K (cname c))) "__length_hint__" = some none)
def kNe (c : Cid) : Kf := fun K => match PySem.W.findIn K (.ref (He.ga K (cname c))) "__ne__" with
  | some (some (.builtin i)) => decide (i = "object.__ne__")
  | _ => false
def kObj (c : Cid) : Kf := fun K => decide (PySem.W.subIn K (.ref (He.ga K (cname c))) (.type "object") = some true)
def kSubO (d c : Cid) : Kf := fun K => decide (PySem.W.subIn K (.ref (He.ga K (cname d))) (.ref (He.ga K (cname c))) = some false)
def isub (c d : Cid) : Bool := decide (c = d) || decide (d = .SaleError)
def kExm (cs : List Cid) (c0 : Cid) : Kf := fun K => cs.all fun c => decide (PySem.W.exmOne K (.ref (He.ga K (cname c))) (.ref (He.ga K (cname c0))) = some (isub c c0))
def kExA (cs : List Cid) (c0 : Cid) : Kf := fun K => cs.all fun c => decide (PySem.W.kitOne K (.ref (He.ga K (cname c))) (.ref (He.ga K (cname c0))) = some (isub c c0))
def kExT (cs : List Cid) (n : String) : Kf := fun K => cs.all fun c => decide (PySem.W.kitOne K (.ref (He.ga K (cname c))) (.type n) = some true)
def kExC (cs : List Cid) : Kf := fun K => cs.all fun c => He.eqO (PySem.W.findIn K (.ref (He.ga K (cname c))) "__getattribute__") (some (some (.builtin "BaseException.__getattribute__"))) && (decide (PySem.W.findIn K (.ref (He.ga K (cname c))) "__getattr__" = some none) && (decide (PySem.W.subIn K (.ref (He.ga K (cname c))) (.type "BaseException") = some true) && (PySem.W.hasDictIn K (He.ga K (cname c)) && (He.eqO (PySem.W.findIn K (.ref (He.ga K (cname c))) "__class__") (some (some (.builtin "object.__class__"))) && (He.eqO (PySem.W.specialIn K (.builtin "object.__class__") "__get__") (some (some (.builtin "getset_descriptor.__get__"))) && (decide (PySem.W.takesIn K (.builtin "object.__class__") = some true) && decide (PySem.W.mroIn K (He.ga K (cname c)) (.type "object") = some true)))))))
def kAl (c : Cid) : Kf := fun K => List.all ["NoneType", "bool", "int", "str", "list", "tuple", "dict"] fun n => decide (PySem.W.subIn K (.type n) (.ref (He.ga K (cname c))) = some false) && decide (PySem.W.subIn K (.ref (He.ga K (cname c))) (.type n) = some false)
def strVs : List Value → List Str → Bool
  | [], [] => true
  | .str x _ :: us, s :: ss => decide (x = s) && strVs us ss
  | _, _ => false
def kTupS (x : Str) (ss : List Str) : Kf := fun K => match K.lookup (He.ga K x) with
  | some o => (o.cls == .type "tuple") && (match o.data with
    | .seq its _ => decide (its.size ≤ sizeLine) && strVs its.toList ss
    | _ => false)
  | none => false
def kExF (cs : List Cid) (n : String) : Kf := fun K => cs.all fun c => decide (PySem.W.kitOne K (.ref (He.ga K (cname c))) (.type n) = some false)
open PySem PySem.Spec L2 PyProof.Rows
abbrev RWX : PySem.W.OpenLaw := PySem.Challenge.rw_yesorwait_k10_refused_urns
def top (i : Nat) : Stmt := PySem.Challenge.pw_yesorwait_k10_refused_urns.main.body.getD i (.Pass ⟨0, 0, 0, 0⟩)
abbrev s_l_pick_01 : Stmt := top 20
abbrev s_l_good_k10 : Stmt := top 25
abbrev s_l_gcd_01 : Stmt := top 22
abbrev s_l_least_10 : Stmt := top 23
abbrev s_Urn_pairs : Stmt := meth (top 17) 1
abbrev s_Urn_iter : Stmt := meth (top 17) 3
abbrev s_l_whole : Stmt := top 21
abbrev s_l_told_k10 : Stmt := top 24
abbrev s_is_integer : Stmt := top 7
abbrev s_is_pair : Stmt := top 12
abbrev s_is_list_of_pairs_v1 : Stmt := top 13
abbrev s_common_divisor : Stmt := top 8
abbrev s_reduced : Stmt := top 14
abbrev s_Urn_init_v1 : Stmt := meth (top 17) 0
abbrev s_Amount_init : Stmt := meth (top 9) 0
abbrev s_l_amounts_k10 : Stmt := top 27
abbrev s_l_things_k10 : Stmt := top 28
abbrev s_l_refused_k10 : Stmt := top 26
abbrev s_Amount_eq : Stmt := meth (top 9) 11
abbrev s_l_case_k10 : Stmt := top 29
abbrev s_l_jar : Stmt := top 19
abbrev s_law_k10 : Stmt := top 30
def d_l_pick_01 : Df := ⟨.fn "_law_pick", "_law_pick", "_law_pick", s_l_pick_01, [], []⟩
def d_l_good_k10 : Df := ⟨.fn "_law_good", "_law_good", "_law_good", s_l_good_k10, [], []⟩
def d_l_gcd_01 : Df := ⟨.fn "_law_gcd", "_law_gcd", "_law_gcd", s_l_gcd_01, [], []⟩
def d_l_least_10 : Df := ⟨.fn "_law_least", "_law_least", "_law_least", s_l_least_10, [], []⟩
def d_Urn_pairs : Df := ⟨.pr .Urn "pairs", "pairs", "Urn.pairs", s_Urn_pairs, [], []⟩
def d_Urn_iter : Df := ⟨.mt .Urn "__iter__", "__iter__", "Urn.__iter__", s_Urn_iter, [], []⟩
def d_l_whole : Df := ⟨.fn "_law_whole", "_law_whole", "_law_whole", s_l_whole, [], []⟩
def d_l_told_k10 : Df := ⟨.fn "_law_told", "_law_told", "_law_told", s_l_told_k10, [], []⟩
def d_is_integer : Df := ⟨.fn "is_integer", "is_integer", "is_integer", s_is_integer, [], []⟩
def d_is_pair : Df := ⟨.fn "is_pair", "is_pair", "is_pair", s_is_pair, [], []⟩
def d_is_list_of_pairs_v1 : Df := ⟨.fn "is_list_of_pairs", "is_list_of_pairs", "is_list_of_pairs", s_is_list_of_pairs_v1, [], []⟩
def d_common_divisor : Df := ⟨.fn "common_divisor", "common_divisor", "common_divisor", s_common_divisor, [], []⟩
def d_reduced : Df := ⟨.fn "reduced", "reduced", "reduced", s_reduced, [], []⟩
def d_Urn_init_v1 : Df := ⟨.mt .Urn "__init__", "__init__", "Urn.__init__", s_Urn_init_v1, [], []⟩
def d_Amount_init : Df := ⟨.mt .Amount "__init__", "__init__", "Amount.__init__", s_Amount_init, [.int 1], []⟩
def d_l_amounts_k10 : Df := ⟨.fn "_law_amounts", "_law_amounts", "_law_amounts", s_l_amounts_k10, [], []⟩
def d_l_things_k10 : Df := ⟨.fn "_law_things", "_law_things", "_law_things", s_l_things_k10, [], []⟩
def d_l_refused_k10 : Df := ⟨.fn "_law_refused", "_law_refused", "_law_refused", s_l_refused_k10, [], []⟩
def d_Amount_eq : Df := ⟨.mt .Amount "__eq__", "__eq__", "Amount.__eq__", s_Amount_eq, [], []⟩
def d_l_case_k10 : Df := ⟨.fn "_law_case", "_law_case", "_law_case", s_l_case_k10, [], []⟩
def d_l_jar : Df := ⟨.fn "_law_jar", "_law_jar", "_law_jar", s_l_jar, [], []⟩
def d_law_k10 : Df := ⟨.fn "law", "law", "law", s_law_k10, [], []⟩
def isiC : List Cid := [.Amount, .Urn]
def isiG : Tg → PV → Option Bool := isiT isiC
def fb : List Kf := [fK (.meth (cname .Urn) "__iter__"),
  kNoHint .Urn,
  kExm [.InvalidUrn] .SaleError,
  kExC [.SaleError, .InvalidAmount, .InvalidUrn, .InvalidFact],
  kExA [.SaleError, .InvalidAmount, .InvalidUrn, .InvalidFact] .InvalidUrn,
  kExT [.SaleError, .InvalidAmount, .InvalidUrn, .InvalidFact] "ValueError",
  kExA [.SaleError, .InvalidAmount, .InvalidUrn, .InvalidFact] .InvalidAmount,
  kExA [.SaleError, .InvalidAmount, .InvalidUrn, .InvalidFact] .InvalidFact,
  kCls .Amount,
  kSubs .Amount,
  fK (.meth (cname .Amount) "__eq__"),
  kIsi isiC,
  kGlo "_law_pick",
  kGlo "_law_good",
  kGlo "_law_gcd",
  kGlo "_law_least",
  kGlo "Urn",
  kGlo "_law_whole",
  kGlo "is_integer",
  kGlo "is_pair",
  kGlo "is_list_of_pairs",
  kGlo "InvalidUrn",
  kGlo "common_divisor",
  kGlo "reduced",
  kGlo "_law_told",
  kGlo "InvalidAmount",
  kGlo "Amount",
  kGlo "_law_amounts",
  kGlo "_law_things",
  kGlo "SaleError",
  kGlo "InvalidFact",
  kGlo "_law_refused",
  kGlo "_law_jar",
  kGlo "_law_case",
  kFree "len",
  kFree "min",
  kFree "max",
  kFree "range",
  kFree "int",
  kFree "abs",
  kFree "sorted",
  kFree "isinstance",
  kFree "list",
  kFree "iter",
  kFree "tuple",
  kFree "bool",
  kFree "sum",
  kFree "str",
  kFree "ValueError",
  fK (.noat (cname .Amount) "above"),
  fK (.noat (cname .Amount) "below"),
  kCls .Urn,
  fK (.noat (cname .Urn) "rows"),
  fK (.noat (cname .Urn) "weights"),
  fK (.noat (cname .Urn) "whole"),
  kProp .Urn "pairs",
  fK (.mkr (cname .Urn)),
  fK (.mkr (cname .Amount)),
  fK (.exc (cname .InvalidAmount)),
  fK (.exc (cname .InvalidUrn)),
  kGlo "law"]
def fn : List Df := [d_l_pick_01, d_l_good_k10, d_l_gcd_01, d_l_least_10, d_Urn_pairs, d_Urn_iter, d_l_whole, d_l_told_k10, d_is_integer, d_is_pair, d_is_list_of_pairs_v1, d_common_divisor, d_reduced, d_Urn_init_v1, d_Amount_init, d_l_amounts_k10, d_l_things_k10, d_l_refused_k10, d_Amount_eq, d_l_case_k10, d_l_jar, d_law_k10]
end Y
namespace Y
open PySem PySem.Spec L2 PyProof.Rows

/-! ### the head -/
def nms : List Str := (["_wall", "SaleError", "InvalidAmount", "InvalidUrn", "InvalidFact", "is_integer", "common_divisor", "Amount", "as_amount", "is_pair", "is_list_of_pairs", "reduced", "up_to", "greater_pairs", "Urn", "_law_jar", "_law_pick", "_law_whole", "_law_gcd", "_law_least", "_law_told", "_law_good", "_law_refused", "_law_amounts", "_law_things", "_law_case"] : List Str)
abbrev hdR : PySem.W.OpenRow := PySem.W.OpenLaw.row PySem.Challenge.rw_yesorwait_k10_refused_urns
def obsA (as : List Addr) (fb : List Kf) (fn : List Df) (g : Addr → Option Obj) : AlY := obsY fb fn (He.frG g as)
def hookA (as : List Addr) (fb : List Kf) (fn : List Df) : PySem.W.Hook where
  α := AlY
  obs := fun s => obsA as fb fn s.heap.get?
  val := fun _ => valY fn
  says := fun _ h => ∃ K : PySem.W.Frag, K.In h ∧ SaysY fb fn K
  of := fun _ _ e => ⟨_, He.frG_in, e⟩
  keeps := fun _ _ _ ⟨K, hK, c⟩ k => ⟨K, PySem.W.Frag.In.keeps hK k, c⟩
theorem obsA_eq {as : List Addr} {fb : List Kf} {fn : List Df} {g : Addr → Option Obj} {s : Shared} (h : ∀ a, g a = s.heap.get? a) : obsA as fb fn g = (hookA as fb fn).obs s := by
  have e : g = s.heap.get? := funext h
  rw [e] <;> rfl
def asT : List Addr := (List.range 1500).reverse
abbrev hdH : PySem.W.Hook := hookA asT fb fn
def hdO (s : PySem.W.SharedT) : AlY := obsA asT fb fn (HandSHeadRun.getT s)
theorem hdO_eq (s : PySem.W.SharedT) : hdO s = hdH.obs s.abs := obsA_eq (HandSHeadRun.getT_eq s)
theorem hdRun (w : World) : HandSHeadRun.RunEq hdR (PySem.W.view hdR.prog [30]) hdH hdO 100000 nms w := by
  intro os
  kernel_rfl

end Y


namespace Y
open PySem PySem.Spec L2
section
variable {α β : Type} {ρ : Rh} {x y z : PV} {c : Cid} {i j : Nat}
def bK (r : Option (Ou α × Rh)) (k : α → SM β) : Option (Ou β × Rh) := match r with
  | some (.ok a, ρ') => k a ρ'
  | some (.ex c, ρ') => some (.ex c, ρ')
  | none => none
@[simp] theorem bK_ok (a : α) (k : α → SM β) : bK (some (.ok a, ρ)) k = k a ρ := rfl
@[simp] theorem bK_ex (k : α → SM β) : bK (some (.ex c, ρ)) k = some (.ex c, ρ) := rfl
@[simp] theorem bK_none (k : α → SM β) : bK none k = none := rfl
@[simp] theorem bind_ap (m : SM α) (k : α → SM β) : SM.bind m k ρ = bK (m ρ) k := by
  unfold SM.bind bK
  cases m ρ with
  | none => rfl
  | some z => obtain ⟨a, b⟩ := z; cases a <;> rfl
def eK (r : Option (Ou α × Rh)) (k : α → SS) : Option (Fl × Rh) := match r with
  | some (.ok a, ρ') => k a ρ'
  | some (.ex c, ρ') => some (.ex c, ρ')
  | none => none
@[simp] theorem eK_ok (a : α) (k : α → SS) : eK (some (.ok a, ρ)) k = k a ρ := rfl
@[simp] theorem eK_ex (k : α → SS) : eK (some (.ex c, ρ)) k = some (.ex c, ρ) := rfl
@[simp] theorem eK_none (k : α → SS) : eK none k = none := rfl
@[simp] theorem sE_ap (m : SM α) (k : α → SS) : sE m k ρ = eK (m ρ) k := by
  unfold sE eK
  cases m ρ with
  | none => rfl
  | some z => obtain ⟨a, b⟩ := z; cases a <;> rfl
def qK (r : Option (Fl × Rh)) (g : SS) : Option (Fl × Rh) := match r with
  | some (.nx, ρ') => g ρ'
  | r => r
@[simp] theorem qK_nx (g : SS) : qK (some (.nx, ρ)) g = g ρ := rfl
@[simp] theorem qK_rt (s : Sl) (g : SS) : qK (some (.rt s, ρ)) g = some (.rt s, ρ) := rfl
@[simp] theorem qK_ex (g : SS) : qK (some (.ex c, ρ)) g = some (.ex c, ρ) := rfl
@[simp] theorem qK_bk (g : SS) : qK (some (.bk, ρ)) g = some (.bk, ρ) := rfl
@[simp] theorem qK_ct (g : SS) : qK (some (.ct, ρ)) g = some (.ct, ρ) := rfl
@[simp] theorem qK_none (g : SS) : qK none g = none := rfl
@[simp] theorem sSeq_ap (f g : SS) : sSeq f g ρ = qK (f ρ) g := by
  unfold sSeq qK
  cases f ρ with
  | none => rfl
  | some z => obtain ⟨a, b⟩ := z; cases a <;> rfl
@[simp] theorem sNx_ap : sNx ρ = some (.nx, ρ) := rfl
@[simp] theorem sBk_ap : sBk ρ = some (.bk, ρ) := rfl
@[simp] theorem sCt_ap : sCt ρ = some (.ct, ρ) := rfl
@[simp] theorem eC_ap : eC x ρ = some (.ok x, ρ) := rfl
def vK (i : Nat) (s : Option Sl) (ρ : Rh) : Option (Ou PV × Rh) := match s with
  | some (.pu x) => some (.ok x, ρ)
  | some (.ow x) => some (.ok x, ρ.set i (.pu x))
  | _ => none
@[simp] theorem vK_pu : vK i (some (.pu x)) ρ = some (.ok x, ρ) := rfl
@[simp] theorem vK_ow : vK i (some (.ow x)) ρ = some (.ok x, ρ.set i (.pu x)) := rfl
@[simp] theorem eV_ap : eV i ρ = vK i ρ[i]? ρ := by
  unfold eV vK
  split <;> simp_all
def wK (s : Option Sl) (ρ : Rh) : Option (Ou PV × Rh) := match s with
  | some (.pu x) => some (.ok x, ρ)
  | some (.ow x) => some (.ok x, ρ)
  | some (.io x) => some (.ok x, ρ)
  | _ => none
@[simp] theorem wK_pu : wK (some (.pu x)) ρ = some (.ok x, ρ) := rfl
@[simp] theorem wK_ow : wK (some (.ow x)) ρ = some (.ok x, ρ) := rfl
@[simp] theorem wK_io : wK (some (.io x)) ρ = some (.ok x, ρ) := rfl
@[simp] theorem eB_ap : eB i ρ = wK ρ[i]? ρ := by
  unfold eB wK
  split <;> simp_all
def opM {γ : Type} (o : Option γ) : SM γ := fun ρ => match o with
  | some z => some (.ok z, ρ)
  | none => none
@[simp] theorem opM_some {γ : Type} {z : γ} : opM (some z) ρ = some (.ok z, ρ) := rfl
@[simp] theorem opM_none {γ : Type} : opM (none : Option γ) ρ = none := rfl
@[simp] theorem eOp_ap (op : PV → PV → Option PV) (fa fb : SE) : eOp op fa fb ρ = bK (fa ρ) fun x => SM.bind fb fun y => opM (op x y) := by
  unfold eOp
  rw [bind_ap]
  congr 1
  funext x
  congr 1
  funext y ρ
  unfold opM
  cases op x y <;> rfl
def blM (x : PV) : SM Bool := fun ρ => match x with
  | .bl b => some (.ok b, ρ)
  | _ => none
@[simp] theorem blM_bl {b : Bool} : blM (.bl b) ρ = some (.ok b, ρ) := rfl
@[simp] theorem eBl_ap (f : SE) : eBl f ρ = bK (f ρ) blM := by
  unfold eBl
  rw [bind_ap]
  rfl
def ifM {γ : Type} (b : Bool) (f g : Rh → γ) : Rh → γ := if b = true then f else g
@[simp] theorem ifM_t {γ : Type} (f g : Rh → γ) : ifM true f g = f := rfl
@[simp] theorem ifM_f {γ : Type} (f g : Rh → γ) : ifM false f g = g := rfl
@[simp] theorem tAnd_ap (f g : SM Bool) : tAndM f g ρ = bK (f ρ) fun b => ifM b g fun ρ => some (.ok false, ρ) := by
  unfold tAndM
  rw [bind_ap]
  rfl
@[simp] theorem tOr_ap (f g : SM Bool) : tOrM f g ρ = bK (f ρ) fun b => ifM b (fun ρ => some (.ok true, ρ)) g := by
  unfold tOrM
  rw [bind_ap]
  rfl
@[simp] theorem tNot_ap (f : SM Bool) : tNotM f ρ = bK (f ρ) fun b ρ => some (.ok (!b), ρ) := by
  unfold tNotM
  rw [bind_ap]
def andK (x : PV) (g : SE) : SE := match x with
  | .bl true => g
  | .bl false => fun ρ => some (.ok (.bl false), ρ)
  | _ => fun _ => none
def orK (x : PV) (g : SE) : SE := match x with
  | .bl false => g
  | .bl true => fun ρ => some (.ok (.bl true), ρ)
  | _ => fun _ => none
def notK (x : PV) : SE := match x with
  | .bl b => fun ρ => some (.ok (.bl (!b)), ρ)
  | _ => fun _ => none
@[simp] theorem andK_t (g : SE) : andK (.bl true) g = g := rfl
@[simp] theorem andK_f (g : SE) : andK (.bl false) g ρ = some (.ok (.bl false), ρ) := rfl
@[simp] theorem orK_t (g : SE) : orK (.bl true) g ρ = some (.ok (.bl true), ρ) := rfl
@[simp] theorem orK_f (g : SE) : orK (.bl false) g = g := rfl
@[simp] theorem notK_b {b : Bool} : notK (.bl b) ρ = some (.ok (.bl (!b)), ρ) := rfl
@[simp] theorem eAnd_ap (f g : SE) : eAnd f g ρ = bK (f ρ) fun x => andK x g := by
  unfold eAnd
  rw [bind_ap]
  rfl
@[simp] theorem eOr_ap (f g : SE) : eOr f g ρ = bK (f ρ) fun x => orK x g := by
  unfold eOr
  rw [bind_ap]
  rfl
@[simp] theorem eNot_ap (f : SE) : eNot f ρ = bK (f ρ) notK := by
  unfold eNot
  rw [bind_ap]
  rfl
@[simp] theorem eIf_ap (t : SM Bool) (f g : SE) : eIf t f g ρ = bK (t ρ) fun b => ifM b f g := by
  unfold eIf
  rw [bind_ap]
  rfl
@[simp] theorem eUn_ap (op : PV → Option PV) (f : SE) : eUn op f ρ = bK (f ρ) fun x => opM (op x) := by
  unfold eUn
  rw [bind_ap]
  congr 1
  funext x ρ
  unfold opM
  cases op x <;> rfl
@[simp] theorem pNil_ap : pNil ρ = some (.ok [], ρ) := rfl
@[simp] theorem pCons_ap (f : SE) (g : SM (List PV)) : pCons f g ρ = bK (f ρ) fun a => SM.bind g fun as ρ => some (.ok (a :: as), ρ) := by
  unfold pCons
  rw [bind_ap]
@[simp] theorem eBf_ap (op : List PV → Option PV) (f : SM (List PV)) : eBf op f ρ = bK (f ρ) fun xs => opM (op xs) := by
  unfold eBf
  rw [bind_ap]
  congr 1
  funext x ρ
  unfold opM
  cases op x <;> rfl
@[simp] theorem eLen_ap (f : SE) : eLen f ρ = bK (f ρ) fun x => opM ((lenP x).map fun n => .int n) := by
  unfold eLen
  rw [bind_ap]
  congr 1
  funext x ρ
  cases lenP x <;> rfl
@[simp] theorem eTup_ap (f : SM (List PV)) : eTup f ρ = bK (f ρ) fun xs => opM (if xs.length ≤ 1000 then some (.tup xs) else none) := by
  unfold eTup
  rw [bind_ap]
  congr 1
  funext x ρ
  split <;> rfl
@[simp] theorem eLst_ap (f : SM (List PV)) : eLst f ρ = bK (f ρ) fun xs => opM (if xs.length ≤ 1000 then some (.lst xs) else none) := by
  unfold eLst
  rw [bind_ap]
  congr 1
  funext x ρ
  split <;> rfl
def hdK (i : Nat) (y : PV) : SE := fun ρ => opM ((heldP ρ i).bind fun x => ixP x y) ρ
@[simp] theorem hdK_ap : hdK i y ρ = opM ((heldP ρ i).bind fun x => ixP x y) ρ := rfl
@[simp] theorem eIxV_ap (fb : SE) : eIxV i fb ρ = if isB ρ i = true then bK (fb ρ) (hdK i) else none := by
  unfold eIxV
  split
  · rw [bind_ap]
    congr 1
    funext y ρ
    rw [hdK_ap]
    cases heldP ρ i with
    | none => rfl
    | some x =>
      show (match ixP x y with
        | some z => some (.ok z, ρ)
        | none => none) = opM (ixP x y) ρ
      cases ixP x y <;> rfl
  · rfl
@[simp] theorem sDo_ap (f : SE) : sDo f ρ = eK (f ρ) fun _ ρ => some (.nx, ρ) := by
  unfold sDo
  rw [sE_ap]
@[simp] theorem sRet_ap (f : SE) : sRet f ρ = eK (f ρ) fun x ρ => some (.rt (.pu x), ρ) := by
  unfold sRet
  rw [sE_ap]
@[simp] theorem sRetW_ap (f : SE) : sRetW f ρ = eK (f ρ) fun x ρ => some (.rt (.ow x), ρ) := by
  unfold sRetW
  rw [sE_ap]
@[simp] theorem sRetN_ap : sRetN ρ = some (.rt (.pu .non), ρ) := rfl
def rvK (i : Nat) (s : Option Sl) (ρ : Rh) : Option (Fl × Rh) := match s with
  | some (.ow x) => some (.rt (.ow x), ρ.set i .un)
  | _ => none
@[simp] theorem rvK_ow : rvK i (some (.ow x)) ρ = some (.rt (.ow x), ρ.set i .un) := rfl
@[simp] theorem sRetV_ap : sRetV i ρ = rvK i ρ[i]? ρ := by
  unfold sRetV rvK
  split <;> simp_all
@[simp] theorem sIf_ap (t : SM Bool) (f g : SS) : sIf t f g ρ = eK (t ρ) fun b => ifM b f g := by
  unfold sIf
  rw [sE_ap]
  rfl
@[simp] theorem sRaise_ap : sRaise c ρ = some (.ex c, ρ) := rfl
def gK (g : GM) (x : PV) : SS := fun ρ => match g x ρ with
  | some ρ' => some (.nx, ρ')
  | none => none
def nxK (o : Option Rh) : Option (Fl × Rh) := o.map fun ρ => (.nx, ρ)
@[simp] theorem nxK_s : nxK (some ρ) = some (.nx, ρ) := rfl
@[simp] theorem gK_ap (g : GM) : gK g x ρ = nxK (g x ρ) := by
  unfold gK nxK
  cases g x ρ <;> rfl
@[simp] theorem sSet_ap (g : GM) (f : SE) : sSet g f ρ = eK (f ρ) (gK g) := by
  unfold sSet
  rw [sE_ap]
  rfl
def gnK (i : Nat) (s : Option Sl) (t : Sl) (ρ : Rh) : Option Rh := match s with
  | some (.io _) => none
  | some _ => some (ρ.set i t)
  | none => none
@[simp] theorem gnK_pu {t : Sl} : gnK i (some (.pu x)) t ρ = some (ρ.set i t) := rfl
@[simp] theorem gnK_ow {t : Sl} : gnK i (some (.ow x)) t ρ = some (ρ.set i t) := rfl
@[simp] theorem gnK_un {t : Sl} : gnK i (some .un) t ρ = some (ρ.set i t) := rfl
@[simp] theorem gN_ap : gN i x ρ = gnK i ρ[i]? (.pu x) ρ := by
  unfold gN gnK
  split <;> simp_all
@[simp] theorem gW_ap : gW i x ρ = gnK i ρ[i]? (.ow x) ρ := by
  unfold gW gnK
  split <;> simp_all
@[simp] theorem gsNil_ap : gsNil [] ρ = some ρ := rfl
@[simp] theorem gsCons_ap (g : GM) (gs : List PV → Rh → Option Rh) (xs : List PV) : gsCons g gs (x :: xs) ρ = (g x ρ).bind (gs xs) := by
  unfold gsCons
  dsimp only
  cases g x ρ <;> rfl
@[simp] theorem gT_ap (gs : List PV → Rh → Option Rh) (xs : List PV) : gT gs (.tup xs) ρ = gs xs ρ := rfl
@[simp] theorem sSetI_ap (fe fk : SE) : sSetI i fe fk ρ = eK (fe ρ) fun x ρ => if isB ρ i = true then eK (fk ρ) (setI1 i x) else none := by
  unfold sSetI
  rw [sE_ap]
  simp only [sE_ap]
@[simp] theorem setI1_ap (k : Int) : setI1 i x (.int k) ρ = nxK ((mtL ρ i).bind fun xs => (ixN xs.length k).map fun n => putL ρ i (xs.set n x)) := by
  unfold setI1
  dsimp only
  cases mtL ρ i with
  | none => rfl
  | some xs =>
    show (match ixN xs.length k with
      | some n => some (Fl.nx, putL ρ i (xs.set n x))
      | none => none) = nxK ((ixN xs.length k).map fun n => putL ρ i (xs.set n x))
    cases ixN xs.length k <;> rfl
def par2 (i j : Nat) (xs : List PV) : SS := fun ρ => match xs with
  | [x, y] => nxK ((gN i x ρ).bind (gN j y))
  | _ => none
@[simp] theorem par2_ap : par2 i j [x, y] ρ = nxK ((gN i x ρ).bind (gN j y)) := rfl
@[simp] theorem sPar_ap (f : SM (List PV)) : sPar i j f ρ = eK (f ρ) (par2 i j) := by
  unfold sPar
  rw [sE_ap]
  have h : ∀ (xs : List PV) (ρ : Rh), (match xs with
    | [x, y] => (match gN i x ρ with
      | some ρ1 => (match gN j y ρ1 with
        | some ρ2 => some (Fl.nx, ρ2)
        | none => none)
      | none => none)
    | _ => none) = par2 i j xs ρ := by
    intro xs ρ
    match xs with
    | [] => rfl
    | [_] => rfl
    | _ :: _ :: _ :: _ => rfl
    | [x, y] =>
      rw [par2_ap]
      dsimp only
      cases gN i x ρ with
      | none => rfl
      | some ρ1 =>
        rw [Option.bind_some]
        dsimp only
        cases gN j y ρ1 <;> rfl
  exact congrArg (eK (f ρ)) (funext fun xs => funext fun ρ => h xs ρ)
@[simp] theorem sWhile_ap (n : Rh → Nat) (t : SM Bool) (b : SS) : sWhile n t b ρ = whileL t b (n ρ) ρ := rfl
@[simp] theorem sFor_ap (it : SM (List PV)) (gm : GM) (b : SS) (fg : List Nat) : sFor it gm b fg ρ = eK (it ρ) fun xs ρ => forL gm b fg xs (wipeR fg ρ) := by
  unfold sFor
  rw [sE_ap]
def loopK (r : Option (Fl × Rh)) (k : SS) : Option (Fl × Rh) := match r with
  | some (.nx, ρ2) => k ρ2
  | some (.ct, ρ2) => k ρ2
  | some (.bk, ρ2) => some (.nx, ρ2)
  | r => r
@[simp] theorem loopK_nx (k : SS) : loopK (some (.nx, ρ)) k = k ρ := rfl
@[simp] theorem loopK_ct (k : SS) : loopK (some (.ct, ρ)) k = k ρ := rfl
@[simp] theorem loopK_bk (k : SS) : loopK (some (.bk, ρ)) k = some (.nx, ρ) := rfl
@[simp] theorem loopK_rt (s : Sl) (k : SS) : loopK (some (.rt s, ρ)) k = some (.rt s, ρ) := rfl
@[simp] theorem loopK_ex (k : SS) : loopK (some (.ex c, ρ)) k = some (.ex c, ρ) := rfl
theorem while_s (t : SM Bool) (b : SS) (n : Nat) : whileL t b (n + 1) ρ = eK (t ρ) fun k => ifM k (fun ρ1 => loopK (b ρ1) (whileL t b n)) fun ρ1 => some (.nx, ρ1) := by
  rw [whileL]
  dsimp only
  cases t ρ with
  | none => rfl
  | some z =>
    obtain ⟨a, ρ1⟩ := z
    cases a with
    | ex c => rfl
    | ok k =>
      cases k with
      | false => rfl
      | true =>
        show _ = loopK (b ρ1) (whileL t b n)
        dsimp only
        cases b ρ1 with
        | none => rfl
        | some w => obtain ⟨f, ρ2⟩ := w; cases f <;> rfl
@[simp] theorem for_nil (gm : GM) (b : SS) (fg : List Nat) : forL gm b fg [] ρ = some (.nx, ρ) := rfl
def forK (o : Option Rh) (k : SS) : Option (Fl × Rh) := match o with
  | some ρ => k ρ
  | none => none
@[simp] theorem forK_s (k : SS) : forK (some ρ) k = k ρ := rfl
@[simp] theorem aP_ap (f : SE) : aP f ρ = bK (f ρ) fun x ρ => some (.ok (.pv x), ρ) := by
  unfold aP
  rw [bind_ap]
def aoK (i : Nat) (s : Option Sl) (ρ : Rh) : Option (Ou Ar × Rh) := match s with
  | some (.ow _) => some (.ok (.own i), ρ)
  | some (.io _) => some (.ok (.own i), ρ)
  | _ => none
@[simp] theorem aoK_ow : aoK i (some (.ow x)) ρ = some (.ok (.own i), ρ) := rfl
@[simp] theorem aoK_io : aoK i (some (.io x)) ρ = some (.ok (.own i), ρ) := rfl
@[simp] theorem aO_ap : aO i ρ = aoK i ρ[i]? ρ := by
  unfold aO aoK
  split <;> simp_all
@[simp] theorem aNil_ap : aNil ρ = some (.ok [], ρ) := rfl
@[simp] theorem aCons_ap (f : SM Ar) (g : SM (List Ar)) : aCons f g ρ = bK (f ρ) fun a => SM.bind g fun as ρ => some (.ok (a :: as), ρ) := by
  unfold aCons
  rw [bind_ap]
@[simp] theorem eCall_ap (g : Fn) (dv : List PV) (fa : SM (List Ar)) : eCall g dv fa ρ = bK (fa ρ) fun as => callG g dv as := by
  unfold eCall
  rw [bind_ap]
def clK (ρ : Rh) (as : List Ar) (r : Option (Ou Sl × List Sl)) : Option (Ou Sl × Rh) := match r with
  | some (a, args') => some (a, wb ρ as args')
  | none => none
@[simp] theorem clK_s {a : Ou Sl} {args' : List Sl} (as : List Ar) : clK ρ as (some (a, args')) = some (a, wb ρ as args') := rfl
theorem callG_ap {as : List Ar} {ss : List Sl} (g : Fn) (dv : List PV) (h1 : (owns as).Nodup) (h2 : slsOf ρ as = some ss) : callG g dv as ρ = clK ρ as (g (ss ++ dv.map .pu)) := by
  unfold callG
  rw [if_pos h1, h2]
  dsimp only
  cases g (ss ++ dv.map .pu) with
  | none => rfl
  | some z => obtain ⟨a, b⟩ := z; cases a <;> rfl
@[simp] theorem eR_ap (f : SM Sl) : eR f ρ = bK (f ρ) asE := by
  unfold eR
  rw [bind_ap]
@[simp] theorem asE_pu : asE (.pu x) ρ = some (.ok x, ρ) := rfl
@[simp] theorem asE_ow : asE (.ow x) ρ = some (.ok x, ρ) := rfl
def ownE (s : Sl) : SE := fun ρ => match s with
  | .ow x => some (.ok x, ρ)
  | _ => none
@[simp] theorem ownE_ow : ownE (.ow x) ρ = some (.ok x, ρ) := rfl
@[simp] theorem eRN_ap (f : SM Sl) : eRN f ρ = bK (f ρ) ownE := by
  unfold eRN
  rw [bind_ap]
  rfl
@[simp] theorem eCallT_ap (g : Fn) (dv : List PV) (fa : SE) : eCallT g dv fa ρ = bK (fa ρ) fun x => callT g dv x := by
  unfold eCallT
  rw [bind_ap]
@[simp] theorem eMake_ap (g : Fn) (dv : List PV) (fs : SM (List Ar)) : eMake c g dv fs ρ = bK (fs ρ) (make1 c g dv) := by
  unfold eMake
  rw [bind_ap]
@[simp] theorem eAtt_ap (tab : Cid → Option At) (fr : SM Ar) : eAtt tab fr ρ = bK (fr ρ) (att1 tab) := by
  unfold eAtt
  rw [bind_ap]
@[simp] theorem eMeth_ap (tab : Cid → Option (Fn × List PV)) (fr : SM Ar) (fs : SM (List Ar)) : eMeth tab fr fs ρ = bK (fr ρ) (meth1 tab fs) := by
  unfold eMeth
  rw [bind_ap]
@[simp] theorem sSetF_ap (tab : Cid → Option Nat) (f : SE) : sSetF i tab f ρ = eK (f ρ) (setF1 i tab) := by
  unfold sSetF
  rw [sE_ap]
@[simp] theorem oAdd_i (a b : Int) : oAdd (.int a) (.int b) = some (.int (a + b)) := rfl
@[simp] theorem oSub_i (a b : Int) : oSub (.int a) (.int b) = some (.int (a - b)) := rfl
@[simp] theorem oNeg_i (a : Int) : oNeg (.int a) = some (.int (-a)) := rfl
theorem oMul_i {a b : Int} (h : MulB a b) : oMul (.int a) (.int b) = some (.int (a * b)) := by
  simp [oMul, oI, h]
theorem oFdiv_i {a b : Int} (h : DivB b) : oFdiv (.int a) (.int b) = some (.int (a.fdiv b)) := by
  simp [oFdiv, oI, h]
@[simp] theorem oMod_i {a b : Int} (h : b ≠ 0) : oMod (.int a) (.int b) = some (.int (a.fmod b)) := by
  simp [oMod, oI, h]
@[simp] theorem oLt_i (a b : Int) : oLt (.int a) (.int b) = some (.bl (decide (a < b))) := rfl
@[simp] theorem oLe_i (a b : Int) : oLe (.int a) (.int b) = some (.bl (decide (a ≤ b))) := rfl
@[simp] theorem oGt_i (a b : Int) : oGt (.int a) (.int b) = some (.bl (decide (b < a))) := rfl
@[simp] theorem oGe_i (a b : Int) : oGe (.int a) (.int b) = some (.bl (decide (b ≤ a))) := rfl
@[simp] theorem oEq_i (a b : Int) : oEq (.int a) (.int b) = some (.bl (decide (a = b))) := rfl
@[simp] theorem oNe_i (a b : Int) : oNe (.int a) (.int b) = some (.bl (!decide (a = b))) := rfl
end
end Y


namespace Y
open PySem PySem.Spec L2
section
variable {ρ : Rh} {x y z : PV} {c : Cid} {i j : Nat}
def fnK (args : List Sl) (r : Option (Fl × Rh)) : Option (Ou Sl × List Sl) := match r with
  | some (.rt sl, ρ') => if chk args ρ' = true then some (.ok sl, outs args ρ') else none
  | some (.nx, ρ') => if chk args ρ' = true then some (.ok (.pu .non), outs args ρ') else none
  | some (.ex c, ρ') => if chk args ρ' = true then some (.ex c, outs args ρ') else none
  | _ => none
@[simp] theorem fnK_rt {args : List Sl} {s : Sl} : fnK args (some (.rt s, ρ)) = if chk args ρ = true then some (.ok s, outs args ρ) else none := rfl
@[simp] theorem fnK_nx {args : List Sl} : fnK args (some (.nx, ρ)) = if chk args ρ = true then some (.ok (.pu .non), outs args ρ) else none := rfl
@[simp] theorem fnK_ex {args : List Sl} : fnK args (some (.ex c, ρ)) = if chk args ρ = true then some (.ex c, outs args ρ) else none := rfl
theorem fnOf_ap {m n : Nat} {f : SS} {args : List Sl} (h : args.length = m) : fnOf m n f args = fnK args (f (args ++ List.replicate n .un)) := by
  unfold fnOf
  rw [if_pos h]
  unfold fnK
  cases f (args ++ List.replicate n .un) with
  | none => rfl
  | some z => obtain ⟨a, b⟩ := z; cases a <;> rfl
@[simp] theorem fnOf_s {m n : Nat} {f : SS} {args : List Sl} : fnOf m n f args = if args.length = m then fnK args (f (args ++ List.replicate n .un)) else none := by
  split
  · rename_i h
    exact fnOf_ap h
  · rename_i h
    unfold fnOf
    rw [if_neg h]
@[simp] theorem chk_nil : chk [] ρ = true := by cases ρ <;> rfl
@[simp] theorem chk_pu {as : List Sl} {s : Sl} : chk (.pu x :: as) (s :: ρ) = chk as ρ := rfl
@[simp] theorem chk_ioc {as : List Sl} : chk (.io x :: as) (.io y :: ρ) = chk as ρ := rfl
@[simp] theorem outs_nil : outs [] ρ = [] := rfl
@[simp] theorem outs_pu {as : List Sl} {s : Sl} : outs (.pu x :: as) (s :: ρ) = .pu x :: outs as ρ := rfl
@[simp] theorem outs_ioc {as : List Sl} {s : Sl} : outs (.io x :: as) (s :: ρ) = s :: outs as ρ := rfl
@[simp] theorem owns_nil : owns [] = [] := rfl
@[simp] theorem owns_pv {as : List Ar} : owns (.pv x :: as) = owns as := rfl
@[simp] theorem owns_own {as : List Ar} : owns (.own i :: as) = i :: owns as := rfl
def ioK (s : Option Sl) : Option Sl := match s with
  | some (.ow x) => some (.io x)
  | some (.io x) => some (.io x)
  | _ => none
@[simp] theorem ioK_ow : ioK (some (.ow x)) = some (.io x) := rfl
@[simp] theorem ioK_io : ioK (some (.io x)) = some (.io x) := rfl
@[simp] theorem slOf_pv : slOf ρ (.pv x) = some (.pu x) := rfl
@[simp] theorem slOf_own : slOf ρ (.own i) = ioK ρ[i]? := by
  unfold slOf ioK
  dsimp only
  all_goals (split <;> simp_all)
@[simp] theorem slsOf_nil : slsOf ρ [] = some [] := rfl
@[simp] theorem slsOf_cons {a : Ar} {as : List Ar} : slsOf ρ (a :: as) = (slOf ρ a).bind fun s => (slsOf ρ as).map fun ss => s :: ss := by
  rw [slsOf]
  cases slOf ρ a with
  | none => rfl
  | some s => cases slsOf ρ as <;> rfl
def callK (ρ : Rh) (g : Fn) (dv : List PV) (as : List Ar) (ss : Option (List Sl)) : Option (Ou Sl × Rh) := match ss with
  | some ss => clK ρ as (g (ss ++ dv.map .pu))
  | none => none
@[simp] theorem callK_s {g : Fn} {dv : List PV} {as : List Ar} {ss : List Sl} : callK ρ g dv as (some ss) = clK ρ as (g (ss ++ dv.map .pu)) := rfl
@[simp] theorem callG_k {g : Fn} {dv : List PV} {as : List Ar} : callG g dv as ρ = if (owns as).Nodup then callK ρ g dv as (slsOf ρ as) else none := by
  by_cases h : (owns as).Nodup
  · rw [if_pos h]
    cases q : slsOf ρ as with
    | some ss => rw [callG_ap g dv h q]; rfl
    | none => unfold callG; rw [if_pos h, q]; rfl
  · unfold callG
    rw [if_neg h, if_neg h]
@[simp] theorem wb_nil {ss : List Sl} : wb ρ [] ss = ρ := by cases ss <;> rfl
@[simp] theorem wb_pv {as : List Ar} {s : Sl} {ss : List Sl} : wb ρ (.pv x :: as) (s :: ss) = wb ρ as ss := by
  cases s <;> rfl
def ptK (ρ : Rh) (i : Nat) (x : PV) (s : Option Sl) : Rh := match s with
  | some t => ρ.set i (t.put x)
  | none => ρ
@[simp] theorem ptK_ow : ptK ρ i x (some (.ow y)) = ρ.set i (.ow x) := rfl
@[simp] theorem ptK_io : ptK ρ i x (some (.io y)) = ρ.set i (.io x) := rfl
@[simp] theorem wb_own {as : List Ar} {ss : List Sl} : wb ρ (.own i :: as) (.io x :: ss) = wb (ptK ρ i x ρ[i]?) as ss := rfl
def ctK (r : Option (Ou Sl × Rh)) (n : Nat) : Option (Ou Sl × Rh) := match r with
  | some (r, ρ') => if ρ'.length = n + 1 then some (r, ρ'.dropLast) else none
  | none => none
@[simp] theorem ctK_s {r : Ou Sl} {n : Nat} : ctK (some (r, ρ)) n = if ρ.length = n + 1 then some (r, ρ.dropLast) else none := rfl
@[simp] theorem callT_ap {g : Fn} {dv : List PV} : callT g dv x ρ = ctK (callG g dv [.own ρ.length] (ρ ++ [.ow x])) ρ.length := by
  unfold callT ctK
  cases callG g dv [.own ρ.length] (ρ ++ [.ow x]) <;> rfl
def mkK (r : Option (Ou Sl × Rh)) (n : Nat) : Option (Ou PV × Rh) := match r with
  | some (.ok (.pu .non), ρ') => (match lastW ρ' with
    | some y => if ρ'.length = n + 1 then some (.ok y, ρ'.dropLast) else none
    | none => none)
  | some (.ex x, ρ') => if ρ'.length = n + 1 then some (.ex x, ρ'.dropLast) else none
  | _ => none
def lwK (o : Option PV) (n : Nat) (ρ : Rh) : Option (Ou PV × Rh) := match o with
  | some y => if ρ.length = n + 1 then some (.ok y, ρ.dropLast) else none
  | none => none
@[simp] theorem lwK_s {n : Nat} : lwK (some y) n ρ = if ρ.length = n + 1 then some (.ok y, ρ.dropLast) else none := rfl
@[simp] theorem mkK_ok {n : Nat} : mkK (some (.ok (.pu .non), ρ)) n = lwK (lastW ρ) n ρ := rfl
@[simp] theorem mkK_ex {n : Nat} : mkK (some (.ex c, ρ)) n = if ρ.length = n + 1 then some (.ex c, ρ.dropLast) else none := rfl
@[simp] theorem make1_ap {g : Fn} {dv : List PV} {as : List Ar} : make1 c g dv as ρ = if (owns as).all (fun i => decide (i < ρ.length)) = true then mkK (callG g dv (.own ρ.length :: as) (ρ ++ [.ow (.obj c [])])) ρ.length else none := by
  unfold make1 mkK
  split
  · cases callG g dv (.own ρ.length :: as) (ρ ++ [.ow (.obj c [])]) with
    | none => rfl
    | some z => obtain ⟨a, b⟩ := z; cases a with
      | ok s => cases s with
        | pu x => cases x <;> rfl
        | _ => rfl
      | ex c => rfl
  · rfl
def lwS (o : Option Sl) : Option PV := match o with
  | some (.ow y) => some y
  | _ => none
@[simp] theorem lwS_ow : lwS (some (.ow y)) = some y := rfl
@[simp] theorem lastW_ap : lastW ρ = lwS ρ.getLast? := rfl
def at2 (ρ : Rh) (a : Ar) (xs : List PV) (t : Option At) : Option (Ou Sl × Rh) := match t with
  | some (.fld j) => opM (xs[j]?.map Sl.pu) ρ
  | some (.prop g) => (match callG g [] [a] ρ with
    | some (.ok sl, ρ') => some (.ok sl, ρ')
    | _ => none)
  | none => none
def at1 (ρ : Rh) (tab : Cid → Option At) (a : Ar) (o : Option PV) : Option (Ou Sl × Rh) := match o with
  | some (.obj c xs) => at2 ρ a xs (tab c)
  | _ => none
@[simp] theorem at1_o {tab : Cid → Option At} {a : Ar} {xs : List PV} : at1 ρ tab a (some (.obj c xs)) = at2 ρ a xs (tab c) := rfl
@[simp] theorem at2_f {a : Ar} {xs : List PV} : at2 ρ a xs (some (.fld j)) = opM (xs[j]?.map Sl.pu) ρ := rfl
def okK (r : Option (Ou Sl × Rh)) : Option (Ou Sl × Rh) := match r with
  | some (.ok sl, ρ') => some (.ok sl, ρ')
  | _ => none
@[simp] theorem okK_s {s : Sl} : okK (some (.ok s, ρ)) = some (.ok s, ρ) := rfl
@[simp] theorem at2_p {a : Ar} {xs : List PV} {g : Fn} : at2 ρ a xs (some (.prop g)) = okK (callG g [] [a] ρ) := rfl
@[simp] theorem att1_ap {tab : Cid → Option At} {a : Ar} : att1 tab a ρ = at1 ρ tab a (contAr ρ a) := by
  unfold att1 at1
  cases contAr ρ a with
  | none => rfl
  | some o => cases o with
    | obj c xs =>
      dsimp only
      unfold at2
      cases tab c with
      | none => rfl
      | some t => cases t with
        | fld j => dsimp only; cases xs[j]? <;> rfl
        | prop g => rfl
    | _ => rfl
@[simp] theorem contAr_pv : contAr ρ (.pv x) = some x := rfl
def coK (s : Option Sl) : Option PV := match s with
  | some (.ow x) => some x
  | some (.io x) => some x
  | _ => none
@[simp] theorem coK_ow : coK (some (.ow x)) = some x := rfl
@[simp] theorem coK_io : coK (some (.io x)) = some x := rfl
@[simp] theorem contAr_own : contAr ρ (.own i) = coK ρ[i]? := by
  unfold contAr coK
  dsimp only
  all_goals (split <;> simp_all)
@[simp] theorem atL_nil : atL [] c = none := rfl
@[simp] theorem atL_cons {d : Cid} {a : At} {l : List (Cid × At)} : atL ((d, a) :: l) c = if c = d then some a else atL l c := by
  unfold atL
  rw [List.lookup_cons]
  by_cases h : c = d
  · subst h
    simp
  · have h2 : (c == d) = false := by simpa using h
    rw [h2, if_neg h]
@[simp] theorem fiL_nil : fiL [] c = none := rfl
@[simp] theorem fiL_cons {d : Cid} {a : Nat} {l : List (Cid × Nat)} : fiL ((d, a) :: l) c = if c = d then some a else fiL l c := by
  unfold fiL
  rw [List.lookup_cons]
  by_cases h : c = d
  · subst h
    simp
  · have h2 : (c == d) = false := by simpa using h
    rw [h2, if_neg h]
@[simp] theorem mtT_nil : mtT [] c = none := rfl
@[simp] theorem mtT_cons {d : Cid} {a : Fn × List PV} {l : List (Cid × (Fn × List PV))} : mtT ((d, a) :: l) c = if c = d then some a else mtT l c := by
  unfold mtT
  rw [List.lookup_cons]
  by_cases h : c = d
  · subst h
    simp
  · have h2 : (c == d) = false := by simpa using h
    rw [h2, if_neg h]
def me2 (ρ : Rh) (a : Ar) (fs : SM (List Ar)) (t : Option (Fn × List PV)) : Option (Ou Sl × Rh) := match t with
  | some (g, dv) => (fs.bind fun as => callG g dv (a :: as)) ρ
  | none => none
def me1 (ρ : Rh) (tab : Cid → Option (Fn × List PV)) (a : Ar) (fs : SM (List Ar)) (o : Option PV) : Option (Ou Sl × Rh) := match o with
  | some (.obj c _) => me2 ρ a fs (tab c)
  | _ => none
@[simp] theorem me1_o {tab : Cid → Option (Fn × List PV)} {a : Ar} {fs : SM (List Ar)} {xs : List PV} : me1 ρ tab a fs (some (.obj c xs)) = me2 ρ a fs (tab c) := rfl
@[simp] theorem me2_s {a : Ar} {fs : SM (List Ar)} {g : Fn} {dv : List PV} : me2 ρ a fs (some (g, dv)) = (fs.bind fun as => callG g dv (a :: as)) ρ := rfl
@[simp] theorem meth1_ap {tab : Cid → Option (Fn × List PV)} {a : Ar} {fs : SM (List Ar)} : meth1 tab fs a ρ = me1 ρ tab a fs (contAr ρ a) := by
  unfold meth1 me1
  cases contAr ρ a with
  | none => rfl
  | some o => cases o with
    | obj c xs =>
      dsimp only
      unfold me2
      cases tab c <;> rfl
    | _ => rfl
def sf2 (ρ : Rh) (i : Nat) (t : Sl) (c : Cid) (xs : List PV) (x : PV) (j : Option Nat) : Option (Fl × Rh) := match j with
  | some j => if j < xs.length then some (.nx, ρ.set i (t.put (.obj c (xs.set j x)))) else if j = xs.length then some (.nx, ρ.set i (t.put (.obj c (xs ++ [x])))) else none
  | none => none
def sf1 (ρ : Rh) (i : Nat) (tab : Cid → Option Nat) (x : PV) (o : Option PV) (t : Option Sl) : Option (Fl × Rh) := match o, t with
  | some (.obj c xs), some t => sf2 ρ i t c xs x (tab c)
  | _, _ => none
@[simp] theorem sf1_s {tab : Cid → Option Nat} {xs : List PV} {t : Sl} : sf1 ρ i tab x (some (.obj c xs)) (some t) = sf2 ρ i t c xs x (tab c) := rfl
@[simp] theorem sf2_s {t : Sl} {xs : List PV} : sf2 ρ i t c xs x (some j) = if j < xs.length then some (.nx, ρ.set i (t.put (.obj c (xs.set j x)))) else if j = xs.length then some (.nx, ρ.set i (t.put (.obj c (xs ++ [x])))) else none := rfl
@[simp] theorem put_ow : Sl.put (.ow x) y = .ow y := rfl
@[simp] theorem put_io : Sl.put (.io x) y = .io y := rfl
@[simp] theorem setF1_ap {tab : Cid → Option Nat} : setF1 i tab x ρ = sf1 ρ i tab x (contAr ρ (.own i)) ρ[i]? := by
  unfold setF1 sf1
  cases contAr ρ (.own i) with
  | none => cases ρ[i]? <;> rfl
  | some o => cases o with
    | obj c xs => cases ρ[i]? with
      | none => rfl
      | some t =>
        dsimp only
        unfold sf2
        cases tab c <;> rfl
    | _ => cases ρ[i]? <;> rfl
def isK (s : Option Sl) : Bool := match s with
  | some (.pu _) => true
  | some (.ow _) => true
  | some (.io _) => true
  | _ => false
@[simp] theorem isK_pu : isK (some (.pu x)) = true := rfl
@[simp] theorem isK_ow : isK (some (.ow x)) = true := rfl
@[simp] theorem isK_io : isK (some (.io x)) = true := rfl
@[simp] theorem isB_ap : isB ρ i = isK ρ[i]? := by
  unfold isB isK
  split <;> simp_all
def hK_ (s : Option Sl) : Option PV := match s with
  | some (.pu x) => some x
  | some (.ow x) => some x
  | some (.io x) => some x
  | _ => none
@[simp] theorem hK_pu : hK_ (some (.pu x)) = some x := rfl
@[simp] theorem hK_ow : hK_ (some (.ow x)) = some x := rfl
@[simp] theorem hK_io : hK_ (some (.io x)) = some x := rfl
@[simp] theorem heldP_ap : heldP ρ i = hK_ ρ[i]? := by
  unfold heldP hK_
  split <;> simp_all
def mlK (s : Option Sl) : Option (List PV) := match s with
  | some (.ow (.lst xs)) => some xs
  | some (.io (.lst xs)) => some xs
  | _ => none
@[simp] theorem mlK_ow {xs : List PV} : mlK (some (.ow (.lst xs))) = some xs := rfl
@[simp] theorem mlK_io {xs : List PV} : mlK (some (.io (.lst xs))) = some xs := rfl
@[simp] theorem mtL_ap : mtL ρ i = mlK ρ[i]? := by
  unfold mtL mlK
  split <;> simp_all
@[simp] theorem putL_ap {ys : List PV} : putL ρ i ys = ptK ρ i (.lst ys) ρ[i]? := rfl
@[simp] theorem ixP_l {xs : List PV} {k : Int} : ixP (.lst xs) (.int k) = atI xs k := rfl
@[simp] theorem ixP_t {xs : List PV} {k : Int} : ixP (.tup xs) (.int k) = atI xs k := rfl
@[simp] theorem lenP_l {xs : List PV} : lenP (.lst xs) = some xs.length := rfl
@[simp] theorem lenP_t {xs : List PV} : lenP (.tup xs) = some xs.length := rfl
def mlO (ρ : Rh) (i : Nat) (r : Option (PV × List PV)) : Option (Ou PV × Rh) := match r with
  | some (z, ys) => some (.ok z, putL ρ i ys)
  | none => none
@[simp] theorem mlO_s {ys : List PV} : mlO ρ i (some (z, ys)) = some (.ok z, putL ρ i ys) := rfl
@[simp] theorem eMl_ap {op : List PV → List PV → Option (PV × List PV)} {fp : SM (List PV)} : eMl i op fp ρ = if (mtL ρ i).isSome = true then bK (fp ρ) fun as ρ => mlO ρ i ((mtL ρ i).bind fun xs => op xs as) else none := by
  unfold eMl
  split
  · rw [bind_ap]
    congr 1
    funext as ρ
    cases mtL ρ i with
    | none => rfl
    | some xs =>
      rw [Option.bind_some]
      dsimp only
      unfold mlO
      cases op xs as with
      | none => rfl
      | some z => rfl
  · rfl
@[simp] theorem bAbs_i (a : Int) : bAbs [.int a] = some (.int (if a < 0 then -a else a)) := rfl
@[simp] theorem bInt_i (a : Int) : bInt [.int a] = some (.int a) := rfl
@[simp] theorem bMax_i (a b : Int) : bMax [.int a, .int b] = some (.int (if a < b then b else a)) := rfl
@[simp] theorem bMin_i (a b : Int) : bMin [.int a, .int b] = some (.int (if b < a then b else a)) := rfl
noncomputable def r1M (xs : List PV) : SM (List PV) := fun ρ => match xs with
  | [.int j] => if RngB j then some (.ok (rngP 0 j.toNat), ρ) else none
  | _ => none
@[simp] theorem r1M_i {k : Int} : r1M [.int k] ρ = if RngB k then some (.ok (rngP 0 k.toNat), ρ) else none := rfl
@[simp] theorem iR1_ap {fp : SM (List PV)} : iR1 fp ρ = bK (fp ρ) r1M := by
  unfold iR1
  rw [bind_ap]
  rfl
noncomputable def r2M (xs : List PV) : SM (List PV) := fun ρ => match xs with
  | [.int i, .int j] => if RngB i ∧ RngB j then some (.ok (rngP i (j - i).toNat), ρ) else none
  | _ => none
@[simp] theorem r2M_i {i k : Int} : r2M [.int i, .int k] ρ = if RngB i ∧ RngB k then some (.ok (rngP i (k - i).toNat), ρ) else none := rfl
@[simp] theorem iR2_ap {fp : SM (List PV)} : iR2 fp ρ = bK (fp ρ) r2M := by
  unfold iR2
  rw [bind_ap]
  rfl
def lsM (x : PV) : SM (List PV) := fun ρ => match x with
  | .lst xs => some (.ok xs, ρ)
  | _ => none
@[simp] theorem lsM_l {xs : List PV} : lsM (.lst xs) ρ = some (.ok xs, ρ) := rfl
@[simp] theorem iL_ap {f : SE} : iL f ρ = bK (f ρ) lsM := by
  unfold iL
  rw [bind_ap]
  rfl
def tsM (x : PV) : SM (List PV) := fun ρ => match x with
  | .tup xs => some (.ok xs, ρ)
  | _ => none
@[simp] theorem tsM_l {xs : List PV} : tsM (.tup xs) ρ = some (.ok xs, ρ) := rfl
@[simp] theorem iTu_ap {f : SE} : iTu f ρ = bK (f ρ) tsM := by
  unfold iTu
  rw [bind_ap]
  rfl
def wpK (i : Nat) (s : Option Sl) (ρ : Rh) : Rh := match s with
  | some (.io _) => ρ
  | _ => ρ.set i .un
@[simp] theorem wpK_io : wpK i (some (.io x)) ρ = ρ := rfl
@[simp] theorem wpK_pu : wpK i (some (.pu x)) ρ = ρ.set i .un := rfl
@[simp] theorem wpK_ow : wpK i (some (.ow x)) ρ = ρ.set i .un := rfl
@[simp] theorem wpK_un : wpK i (some .un) ρ = ρ.set i .un := rfl
@[simp] theorem wipe_nil : wipeR [] ρ = ρ := rfl
@[simp] theorem wipe_cons {fg : List Nat} : wipeR (i :: fg) ρ = wipeR fg (wpK i ρ[i]? ρ) := by
  show wipeR fg (wipe1 ρ i) = _
  congr 1
end
end Y


namespace Y
open PySem PySem.Spec L2
/-- what a def gives back for frozen values, as a frozen value -/
def pgS (r : Option (Ou Sl × List Sl)) : Option PV := match r with
  | some (.ok (.pu z), _) => some z
  | some (.ok (.ow z), _) => if z.isD = true then none else some z
  | _ => none
def pureG (g : Fn) (xs : List PV) : Option PV := pgS (g (xs.map .pu))
theorem pu_args {S : Sg} {F H : Hp} : ∀ {xs : List PV} {vs : List V}, Reps S F xs vs → ArgsR S F H (xs.map .pu) vs
  | [], vs, r => r
  | x :: xs, vs, ⟨v, r, e, h1, h2⟩ => ⟨v, r, e, h1, pu_args h2⟩
theorem pu_pin : ∀ (xs : List PV) (vs : List V) (i : Nat) (p : Addr), (pinOf (xs.map .pu) vs)[i]? ≠ some (some p) := fun xs vs i p h => by
  obtain ⟨x, y, _⟩ := pinOf_get h
  rw [List.getElem?_map] at y
  cases q : xs[i]? with
  | none => rw [q] at y; cases y
  | some z => rw [q] at y; cases y
theorem pure_sp {S : Sg} {g : Fn} {xs : List PV} {F H : Hp} {vs : List V} {Q : VK} {z : PV} {E : XK} (s : Same F H) (r : Reps S F xs vs) (e : pureG g xs = some z) (k : ∀ u F' H', Gw F H F' H' → Rep S F' z u → Q u H') : spOf S g vs H Q E := by
  unfold pureG pgS at e
  cases q : g (xs.map .pu) with
  | none => rw [q] at e; cases e
  | some w =>
    obtain ⟨a, args'⟩ := w
    rw [q] at e
    refine ⟨F, xs.map .pu, _, s, pu_args r, fun i j p h1 _ => absurd h1 (pu_pin xs vs i p), q, ?_⟩
    have gw : ∀ {F' H' : Hp}, Aft S ⟨F, H, pinOf (xs.map .pu) vs⟩ F' H' args' → Gw F H F' H' := fun {F' H'} af => by
      have no : ∀ b, b ∉ (Fr.mk F H (pinOf (xs.map .pu) vs)).own := fun b hb => by
        obtain ⟨a, h1, h2⟩ := List.mem_filterMap.mp (show b ∈ (pinOf (xs.map .pu) vs).filterMap id from hb)
        have h2 : a = some b := h2
        subst h2
        obtain ⟨i, hi⟩ := List.getElem?_of_mem h1
        exact pu_pin xs vs i b hi
      exact ⟨af.f, fun b o h => af.k1 b o h (no b), af.fh, fun b h h2 => af.k2 b h h2 (no b)⟩
    cases a with
    | ex c => cases e
    | ok sl =>
      cases sl with
      | un => cases e
      | io y => cases e
      | pu y =>
        cases e
        exact fun v F' H' af rv => k v F' H' (gw af) rv
      | ow y =>
        dsimp only at e
        split at e
        · cases e
        · rename_i nd
          cases e
          rintro v F' H' af ⟨p, rfl, e2, e3, tp⟩
          obtain ⟨o, ho⟩ := tp.there
          have g1 := gw af
          have ne : ∀ {b : Addr}, H b ≠ none → b ≠ p := fun {b} hb z => hb (by rw [z]; exact e3)
          refine k (.ref p) (upd F' p o) H' ⟨g1.f.trans (same_upd e2), g1.h, fun b u hb => ?_, fun b hb hf => ?_⟩ ?_
          · by_cases q : b = p
            · subst q
              rw [upd_same] at hb
              cases hb
              exact ho
            · rw [upd_ne q] at hb
              exact g1.fh b u hb
          · rw [upd_ne (ne hb)]
            exact g1.o b hb hf
          · have nd : z.isD = false := by simpa using nd
            exact Top.rep (H := H') (by rw [upd_same, ho]) nd (Top.mono (same_upd e2) rfl tp)

/-- what an operator's method must have -/
structure OwnOp (X : Cx) (S : Sg) (m : Str) (c : Cid) (g : Fn) : Prop where
  cls : Cls S.K (S.ca c)
  fst : PySem.W.selfFirst S.K (S.ca c) = true
  ex : ∃ f, Meth S.K (S.ca c) m f ∧ Cal X S f [] g
theorem own_run {X : Cx} {S : Sg} {f : Addr} {g : Fn} {dv : List PV} (hK : X.K = S.K) (C : Cal X S f dv g) (hdv : dv = []) {pins : List (Addr × Obj)} {σ : L2.St} {H : Hp} {s : Shared} {Q : VK} {vs : List V} {us : List Value} (I : Inv X pins σ H s) (r : Vals vs us) (h : spOf S g vs H Q (WE (fun _ _ _ _ => False) σ)) :
    wpAny (model X.prog X.w) X.A (call (.ref f) us) (EP X pins σ Q) X.xe s := by
  subst hdv
  obtain ⟨k, fd, ps, ds, dvs, Fo, hr, hb, hd, hv⟩ := C.ex
  have e : dvs = [] := hv H
  subst e
  exact run_fnSD Fo (hr.mono (Nat.le_succ k)) hb hd (fun pins H s e s' I q => passL pins σ H s e s' I q) I r (by rw [List.append_nil]; exact h)
end Y
namespace PySem.W
open PySem PySem.Calls PyProof.Rows
section
variable {prog : Program} {w : World} {A : Around} {E : Value → Shared → Prop} {s : Shared} {K : Frag} {x C f : Addr} {ox : Obj} {od : Option Obj} {nm : String}
end
end PySem.W
namespace PySem.W
open PySem PySem.Calls PyProof.Rows
section
variable {prog : Program} {w : World} {A : Around} {E : Value → Shared → Prop} {s : Shared} {K : Frag} {x C f f2 : Addr} {ox : Obj} {od : Option Obj} {nm : String}
end
section
variable {prog : Program} {w : World} {A : Around} {E : Value → Shared → Prop} {s : Shared} {K : Frag} {x C f : Addr} {ox : Obj} {od : Option Obj}
/-- a value ahead of an instance, that does not know the instance -/
theorem yCmpRefl {op : CmpOp} {a : Value} {T : String} {Q : Value → Shared → Prop} (hu : A.units < cLine) (X : K.In s.heap) (I : InstAt s.heap x ox C od) (ha : s.TypeIs a T) (sub : subIn K (.ref C) (.type T) = some false)
    (dec : ∀ {Q' : Option Value → Shared → Prop}, Q' none s → wpAny (model prog w) A (tryCompare a (cmpInfo op).2.1 (.ref x)) Q' E s)
    (hr : findIn K (.ref C) (cmpInfo op).2.2 = some (some (.ref f))) (hf : isFn K (.ref f) = true)
    (h : wpAny (model prog w) A (call (.ref f) [.ref x, a]) (CmpBack Q) E s) : wpAny (model prog w) A (richCompare op a (.ref x)) Q E s := by
  have one : wpAny (model prog w) A (tryCompare (.ref x) (cmpInfo op).2.2 a) (fun r s' => ∃ v, r = some v ∧ Q v s') E s := by
    unfold tryCompare
    refine wpAny_bind (ifBound_K X I hr hf (wpAny_mono h (fun v s' hv => ?_) fun _ _ e => e))
    cases v <;> first | exact hv.elim | exact wpAny_pure ⟨_, rfl, hv⟩
  have hne : (Value.type T != Value.ref C) = true := by
    rw [bne_iff_ne]
    exact fun q => by cases q
  unfold richCompare
  simp only [ha.oneThing_none]
  refine wpAny_holding (wpAny_bind (wpAny_cRoomFor hu ?_))
  refine wpAny_bind (wpAny_typeOf ha (wpAny_bind (I.type.here ?_)))
  simp only [hne, if_true]
  refine wpAny_bind ((looks_subIn X sub).here ?_)
  simp only [Bool.false_eq_true, if_false, Bool.not_false, if_true]
  refine wpAny_bind (m := tryCompare a _ (.ref x)) (dec ?_)
  refine wpAny_bind (m := tryCompare (.ref x) _ a) (wpAny_mono one (fun r s' z => ?_) fun _ _ e => e)
  obtain ⟨v, rfl, hq⟩ := z
  exact wpAny_pure hq
end
end PySem.W

namespace Y
open PySem PySem.Spec L2
section
variable {X : Cx} {S : Sg}
/-- the operator's method of one's own class: for two of the class, and with a number behind -/
structure BinOk (X : Cx) (S : Sg) (o : Operator) (c : Cid) (g : Fn) : Prop where
  cls : Cls S.K (S.ca c)
  fst : PySem.W.selfFirst S.K (S.ca c) = true
  ex : ∃ f, Meth S.K (S.ca c) (PySem.dunder o.info.2) f ∧ Cal X S f [] g
/-- .. a number's type has it, too -/
structure BinI (S : Sg) (o : Operator) (c : Cid) : Prop where
  r : ∃ rc, PySem.W.findIn S.K (.ref (S.ca c)) (dunderR o.info.2) = some rc ∧ (rc = none ∨ ∃ g : Addr, rc = some (.ref g))
  i1 : ∃ fo, PySem.W.findIn S.K (.type "int") (PySem.dunder o.info.2) = some fo
  i2 : ∃ ro, PySem.W.findIn S.K (.type "int") (dunderR o.info.2) = some ro
  sub : PySem.W.subIn S.K (.type "int") (.ref (S.ca c)) = some false
def oB (tab : Cid → Option Fn) (ti : Cid → Bool) (x y : PV) : Option PV := match x with
  | .obj c _ => (match tab c with
    | some g => (match y with
      | .obj d _ => if d = c then pureG g [x, y] else none
      | .int _ => if ti c = true then pureG g [x, y] else none
      | _ => none)
    | none => none)
  | _ => none
theorem inst_at {pins : List (Addr × Obj)} {σ : L2.St} {H : Hp} {s : Shared} {a C dx : Addr} {fs : List (Str × V)} (I : Inv X pins σ H s) (e : H a = some (.ins C dx fs)) : ∃ od, PySem.W.InstAt s.heap a (PySem.W.instObj C dx) C (some od) := by
  obtain ⟨mA, O, _⟩ := ins_get I.hok e
  obtain ⟨od, J, _⟩ := O.look
  exact ⟨od, J⟩
/-- a number ahead -/
structure ReflOk (X : Cx) (S : Sg) (o : Operator) (c : Cid) (g : Fn) : Prop where
  cls : Cls S.K (S.ca c)
  fst : PySem.W.selfFirst S.K (S.ca c) = true
  own : ∃ f2, PySem.W.findIn S.K (.ref (S.ca c)) (PySem.dunder o.info.2) = some (some (.ref f2))
  sub : PySem.W.subIn S.K (.ref (S.ca c)) (.type "int") = some false
  ex : ∃ f, Meth S.K (S.ca c) (dunderR o.info.2) f ∧ Cal X S f [] g
/-- a number's operator leaves an instance to the instance -/
structure IntOp (o : Operator) : Prop where
  fT : fillsNumberSlot (.type "int") o.info.2 = pure true
  sl : ∃ id name F r, Slot "int" (PySem.dunder o.info.2) id ∧ entryFor table id = some (PySem.Builtin.Int.intBinary name F r) ∧ ∀ a b, argsOk id ⟨[a, b], []⟩
def oBr (tab : Cid → Option Fn) (x y : PV) : Option PV := match x with
  | .int _ => (match y with
    | .obj c _ => (match tab c with
      | some g => pureG g [y, x]
      | none => none)
    | _ => none)
  | _ => none
def oU (op : PV → Option PV) (tab : Cid → Option Fn) (x : PV) : Option PV := match x with
  | .obj c _ => (match tab c with
    | some g => pureG g [x]
    | none => none)
  | _ => op x
end
end Y


namespace Y
open PySem PySem.Spec L2
section
variable {X : Cx} {S : Sg}
/-- a value whose type is plain to see -/
def tySc : PV → Option String
  | .non => some "NoneType"
  | .bl _ => some "bool"
  | .int _ => some "int"
  | .str _ => some "str"
  | _ => none
theorem tySc_looks {F : Hp} {x : PV} {v : V} {u : Value} {n : String} {M : Model} {h : Heap} (r : Rep S F x v) (rv : RelV v u) (e : tySc x = some n) : PySem.W.Looks M h (typeOf u) (.type n) := by
  cases x with
  | non => cases e; obtain rfl : v = V.non := r; obtain rfl : u = Value.none := rv; exact .of_pure rfl
  | bl b => cases e; obtain rfl : v = V.bl b := r; obtain rfl : u = Value.bool b := rv; exact .of_pure rfl
  | int i => cases e; obtain rfl : v = V.int i := r; obtain ⟨t, rfl⟩ := (show ∃ t, u = Value.int i t from rv); exact .of_pure rfl
  | str z => cases e; obtain rfl : v = V.str z := r; obtain ⟨t, rfl⟩ := (show ∃ t, u = Value.str z t from rv); exact .of_pure rfl
  | _ => cases e
theorem tySc_mem {x : PV} {n : String} (e : tySc x = some n) : n ∈ tyNs := by
  cases x <;> first | (cases e; decide) | cases e
structure CmpOk (X : Cx) (S : Sg) (o : CmpOp) (c : Cid) (g : Fn) : Prop where
  cls : Cls S.K (S.ca c)
  sub : ∀ n, n ∈ tyNs → PySem.W.subIn S.K (.type n) (.ref (S.ca c)) = some false
  subN : PySem.W.subIn S.K (.ref (S.ca c)) (.type "NoneType") = some false
  ex : ∃ f, Meth S.K (S.ca c) (cmpInfo o).2.1 f ∧ Cal X S f [] g
def oCm (tab : Cid → Option Fn) (x y : PV) : Option PV := match x with
  | .obj c _ => (match tab c with
    | some g => (match y with
      | .obj d _ => if d = c then pureG g [x, y] else none
      | _ => (match tySc y with
        | some _ => pureG g [x, y]
        | none => none))
    | none => none)
  | _ => none
/-- a number ahead -/
structure CmpROk (X : Cx) (S : Sg) (o : CmpOp) (c : Cid) (g : Fn) : Prop where
  cls : Cls S.K (S.ca c)
  sub : PySem.W.subIn S.K (.ref (S.ca c)) (.type "int") = some false
  ex : ∃ f, Meth S.K (S.ca c) (cmpInfo o).2.2 f ∧ Cal X S f [] g
structure IntCmp (o : CmpOp) : Prop where
  sl : ∃ id name F r, Slot "int" (cmpInfo o).2.1 id ∧ entryFor table id = some (PySem.Builtin.Int.intBinary name F r) ∧ ∀ a b, argsOk id ⟨[a, b], []⟩
structure UnOk (X : Cx) (S : Sg) (m : Str) (c : Cid) (g : Fn) : Prop where
  ex : ∃ f, Meth S.K (S.ca c) m f ∧ Cal X S f [] g
/-- -x: a number's, or one's own -/
def oNegO (tab : Cid → Option Fn) (x : PV) : Option PV := match x with
  | .int i => some (.int (-i))
  | .obj c _ => (match tab c with
    | some g => pureG g [x]
    | none => none)
  | _ => none
theorem UnR.or {f : Value → Sem Value} {r r' : V → Hp → VK → Prop} (h : UnR X f r) (h' : UnR X f r') : UnR X f (fun x H Q => r x H Q ∨ r' x H Q) := fun pins s σ H x v Q I rx q => by
  rcases q with q | q
  · exact h pins s σ H x v Q I rx q
  · exact h' pins s σ H x v Q I rx q
variable {φ : Fr} {W : WX} {a : Expr} {fa : SE} {pos : Pos}
end
end Y


namespace Y
open PySem PySem.Spec L2
section
variable {X : Cx} {S : Sg}
/-- own_run, one call of the machine deeper -/
theorem own_runI {f : Addr} {g : Fn} (hK : X.K = S.K) (C : Cal X S f [] g) {pins : List (Addr × Obj)} {σ : L2.St} {H : Hp} {s : Shared} {Q : VK} {vs : List V} {us : List Value} (I : Inv X pins σ H s) (r : Vals vs us) (h : spOf S g vs H Q (WE (fun _ _ _ _ => False) σ)) :
    wpAny (model X.prog X.w) X.A.in1 (call (.ref f) us) (EP X pins σ Q) X.xe s := by
  obtain ⟨k, fd, ps, ds, dvs, Fo, hr, hb, hd, hv⟩ := C.ex
  have e : dvs = [] := hv H
  subst e
  have e2 : ds = [] := by cases hd; rfl
  subst e2
  have hl := Fo.len _ _ _ _ h
  have env : Env0 X.prog X.w X.K X.mg X.base X.A.in1 X.stack s H := let e := I.env0
    ⟨e.frames, e.mod, e.bs, e.bsz, e.funs, e.frf, e.hok, e.bare⟩
  have b := hb s us I.kIn (by rw [List.append_nil, ← r.length, hl])
  rw [List.append_nil] at b
  refine wpAny_call (codeAny_mono (Fo.run X.A.in1 X.stack s H ⟨us, []⟩ us vs _ _ hr.in1 env b r h) fun rs s' hq => ?_)
  cases rs with
  | error e => exact passL pins σ H s e s' I hq
  | ok fl =>
    cases fl with
    | ret u => exact I.after hq
    | next => exact hq.elim
    | brk => exact hq.elim
    | cont => exact hq.elim
def bAbsO (tab : Cid → Option Fn) : List PV → Option PV
  | [.obj c xs] => (match tab c with
    | some g => pureG g [.obj c xs]
    | none => none)
  | xs => bAbs xs
end
end Y


namespace Y
open PySem PySem.Spec L2
def foL (l : List (Cid × Fn)) : Cid → Option Fn := fun c => l.lookup c
theorem fo_nil {p : Cid → Fn → Prop} : ∀ c g, foL [] c = some g → p c g := fun c g e => by cases e
theorem fo_cons {p : Cid → Fn → Prop} {c0 : Cid} {g0 : Fn} {l : List (Cid × Fn)} (h : p c0 g0) (t : ∀ c g, foL l c = some g → p c g) : ∀ c g, foL ((c0, g0) :: l) c = some g → p c g := fun c g e => by
  unfold foL at e
  rw [List.lookup_cons] at e
  split at e
  · rename_i q
    cases e
    have q2 := beq_iff_eq.mp q
    subst q2
    exact h
  · exact t c g e
@[simp] theorem foL_nil {c : Cid} : foL [] c = none := rfl
@[simp] theorem foL_cons {c d : Cid} {a : Fn} {l : List (Cid × Fn)} : foL ((d, a) :: l) c = if c = d then some a else foL l c := by
  unfold foL
  rw [List.lookup_cons]
  by_cases h : c = d
  · subst h
    simp
  · have h2 : (c == d) = false := by simpa using h
    rw [h2, if_neg h]
def tiL (l : List Cid) : Cid → Bool := fun c => decide (c ∈ l)
variable {K : PySem.W.Frag} {X : Cx} {c : Cid} {g : Fn} {m : Str}
theorem cmp_ok {o : CmpOp} (h1 : kCls c K = true) (h2 : kSubs c K = true) (h3 : fK (.meth (cname c) m) K = true) (C : Cal X (sgOf K) (pa K c m) [] g) (e : (cmpInfo o).2.1 = m := by decide +kernel) : CmpOk X (sgOf K) o c g :=
  ⟨(kCls_ok h1).cls, fun n hn => of_decide_eq_true (List.all_eq_true.mp (He.ba h2).2 n hn), of_decide_eq_true (He.ba h2).1, _, by rw [e]; exact He.meth_ok h3, C⟩
/-- one operator, then another one -/
def orO (p q : PV → PV → Option PV) (x y : PV) : Option PV := match p x y with
  | some z => some z
  | none => q x y
@[simp] theorem pgS_pu {z : PV} {a : List Sl} : pgS (some (.ok (.pu z), a)) = some z := rfl
@[simp] theorem pgS_ow {z : PV} {a : List Sl} : pgS (some (.ok (.ow z), a)) = if z.isD = true then none else some z := rfl
end Y


namespace Y
open PySem PySem.Spec L2
section
variable {S : Sg} {φ : Fr} {ρ : Rh} {F F' H H' : Hp} {σ σ' : L2.St} {D : Addr} {o u : HO}
/-- the frame with one object more that stays as it is -/
def Fr.plus (φ : Fr) (D : Addr) (o : HO) : Fr := ⟨φ.F, upd φ.H D o, φ.pin⟩
theorem Stt.into (s : Stt S φ ρ F σ H) (nw : Nw φ ρ F σ D) (hD : H D = some o) : Stt S (φ.plus D o) ρ F σ H where
  len := s.len
  same := s.same
  fF := s.fF
  k1 := fun a u e n => by
    by_cases q : a = D
    · subst q
      rw [show (φ.plus a o).H a = some o from upd_same] at e
      cases e
      exact hD
    · rw [show (φ.plus D o).H a = φ.H a from upd_ne q] at e
      exact s.k1 a u e n
  k2 := fun a e f n => by
    by_cases q : a = D
    · subst q; exact nw.f
    · rw [show (φ.plus D o).H a = φ.H a from upd_ne q] at e
      exact s.k2 a e f n
  k3 := s.k3
  slot := fun i t e => by
    have q := s.slot i t e
    cases t with
    | un => exact True.intro
    | pu x => exact q
    | io x => exact q
    | ow x =>
      obtain ⟨p, h1, h2, h3, h4⟩ := q
      refine ⟨p, h1, h2, ?_, h4⟩
      have ne : p ≠ D := fun z => nw.no i _ x e (.ow x) (by rw [h1, z])
      rw [show (φ.plus D o).H p = φ.H p from upd_ne ne]
      exact h3
  sep := s.sep
theorem Stt.outof (hD : φ.H D = none) (s : Stt S (φ.plus D o) ρ F σ H) : Stt S φ ρ F σ H where
  len := s.len
  same := s.same
  fF := s.fF
  k1 := fun a u e n => s.k1 a u (by
    have ne : a ≠ D := fun z => by rw [z, hD] at e; cases e
    rw [show (φ.plus D o).H a = φ.H a from upd_ne ne]
    exact e) n
  k2 := fun a e f n => s.k2 a (by
    have ne : a ≠ D := fun z => e (by rw [z]; exact hD)
    rw [show (φ.plus D o).H a = φ.H a from upd_ne ne]
    exact e) f n
  k3 := s.k3
  slot := fun i t e => by
    have q := s.slot i t e
    cases t with
    | un => exact True.intro
    | pu x => exact q
    | io x => exact q
    | ow x =>
      obtain ⟨p, h1, h2, h3, h4⟩ := q
      refine ⟨p, h1, h2, ?_, h4⟩
      have ne : p ≠ D := fun z => by rw [z, show (φ.plus D o).H D = some o from upd_same] at h3; cases h3
      rw [show (φ.plus D o).H p = φ.H p from upd_ne ne] at h3
      exact h3
  sep := s.sep
theorem Stt.kept (hF : φ.F D = none) (hD : φ.H D = none) (no : D ∉ φ.own) (s : Stt S (φ.plus D o) ρ F σ H) : H D = some o ∧ Nw φ ρ F σ D := by
  have e : (φ.plus D o).H D = some o := upd_same
  refine ⟨s.k1 D o e no, s.k2 D (by rw [e]; simp) hF no, hD, fun i t x h1 h2 h3 => ?_⟩
  obtain ⟨p, g1, g2, g3, g4⟩ := s.mt h1 h2
  rw [h3] at g1
  cases g1
  rcases g4 with g4 | g4
  · rw [e] at g4; cases g4
  · exact no g4
theorem Stt.congr (s : Stt S φ ρ F σ H) (hl : ρ.length ≤ σ'.length) (h : ∀ (i : Nat) (t : Sl), ρ[i]? = some t → t ≠ .un → σ'[i]? = σ[i]?) : Stt S φ ρ F σ' H where
  len := hl
  same := s.same
  fF := s.fF
  k1 := s.k1
  k2 := s.k2
  k3 := s.k3
  slot := fun i t e => by
    have q := s.slot i t e
    cases t with
    | un => exact True.intro
    | pu x => have z := h i _ e (by simp); dsimp only; rw [z]; exact q
    | ow x => have z := h i _ e (by simp); dsimp only; rw [z]; exact q
    | io x => have z := h i _ e (by simp); dsimp only; rw [z]; exact q
  sep := fun i j a b x y p h1 h2 m1 m2 e1 e2 => by
    have n1 : a ≠ .un := fun z => by rw [z] at m1; cases m1
    have n2 : b ≠ .un := fun z => by rw [z] at m2; cases m2
    rw [h i a h1 n1] at e1
    rw [h j b h2 n2] at e2
    exact s.sep i j a b x y p h1 h2 m1 m2 e1 e2
theorem Nw.congr (n : Nw φ ρ F σ D) (h : ∀ (i : Nat) (t : Sl), ρ[i]? = some t → t ≠ .un → σ'[i]? = σ[i]?) : Nw φ ρ F σ' D :=
  ⟨n.f, n.h, fun i t x h1 h2 h3 => n.no i t x h1 h2 (by rw [← h i t h1 (fun z => by rw [z] at h2; cases h2)]; exact h3)⟩
/-- the new object is changed -/
theorem Stt.poke (s : Stt S φ ρ F σ H) (nw : Nw φ ρ F σ D) : Stt S φ ρ F σ (upd H D o) where
  len := s.len
  same := fun b v e => by
    have ne : b ≠ D := fun z => by rw [z, nw.f] at e; cases e
    rw [upd_ne ne]
    exact s.same b v e
  fF := s.fF
  k1 := fun a v e n => by
    have ne : a ≠ D := fun z => by rw [z, nw.h] at e; cases e
    rw [upd_ne ne]
    exact s.k1 a v e n
  k2 := s.k2
  k3 := fun p h => by
    by_cases q : p = D
    · rw [q, upd_same]; simp
    · rw [upd_ne q]; exact s.k3 p h
  slot := fun i t e => by
    have q := s.slot i t e
    cases t with
    | un => exact True.intro
    | pu x => exact q
    | ow x =>
      obtain ⟨p, h1, h2, h3, h4⟩ := q
      have ne : p ≠ D := fun z => nw.no i _ x e (.ow x) (by rw [h1, z])
      exact ⟨p, h1, h2, h3, Top.mono (Same.refl _) (upd_ne ne) h4⟩
    | io x =>
      obtain ⟨p, h1, h2, h3, h4⟩ := q
      have ne : p ≠ D := fun z => nw.no i _ x e (.io x) (by rw [h1, z])
      exact ⟨p, h1, h2, h3, Top.mono (Same.refl _) (upd_ne ne) h4⟩
  sep := s.sep
def unAll (vs : List Nat) (ρ : Rh) : Bool := vs.all fun i => match ρ[i]? with
  | some .un => true
  | none => true
  | _ => false
theorem unAll_ne {vs : List Nat} (h : unAll vs ρ = true) {i : Nat} {t : Sl} (e : ρ[i]? = some t) (n : t ≠ .un) : i ∉ vs := fun m => by
  have q := List.all_eq_true.mp h i m
  rw [e] at q
  cases t with
  | un => exact n rfl
  | _ => cases q
theorem wipe_ne {vs : List Nat} : ∀ {i : Nat}, i ∉ vs → (wipe σ vs)[i]? = σ[i]? := by
  induction vs with
  | nil => intro i _; rfl
  | cons v vs ih =>
    intro i h
    simp only [List.mem_cons, not_or] at h
    unfold wipe
    rw [List.getElem?_set_ne (fun z => h.1 z.symm)]
    exact ih h.2
theorem wipe_in {vs : List Nat} : ∀ {i : Nat}, i ∈ vs → i < σ.length → (wipe σ vs)[i]? = some none := by
  induction vs with
  | nil => intro i h; cases h
  | cons v vs ih =>
    intro i h hl
    unfold wipe
    by_cases q : v = i
    · subst q
      rw [List.getElem?_set_self (by rw [wipe_length]; exact hl)]
    · rw [List.getElem?_set_ne q]
      rcases List.mem_cons.mp h with z | z
      · exact absurd z.symm q
      · exact ih z hl
theorem wipe_chg {vs is : List Nat} (hi : ∀ i ∈ is, i ∈ vs) (c : Chg is (wipe σ vs) σ') : wipe σ' vs = wipe σ vs := by
  have l1 : σ'.length = σ.length := c.1.trans (wipe_length σ vs)
  apply List.ext_getElem?
  intro i
  by_cases m : i ∈ vs
  · by_cases hl : i < σ.length
    · rw [wipe_in m hl, wipe_in m (by omega)]
    · rw [List.getElem?_eq_none (by rw [wipe_length]; omega), List.getElem?_eq_none (by rw [wipe_length]; omega)]
  · rw [wipe_ne m]
    exact c.2 i fun z => m (hi i z)
end
end Y


namespace Y
open PySem PySem.Spec L2
def lcL (gm : GM) (tst : SM Bool) (fe : SE) (vs : List Nat) : List PV → List PV → Rh → Option (List PV × Rh)
  | [], acc, ρ => if unAll vs ρ = true then some (acc, ρ) else none
  | x :: xs, acc, ρ => if unAll vs ρ = true then (match gm x ρ with
    | none => none
    | some ρ1 => (match tst ρ1 with
      | some (.ok true, ρ2) => (match fe ρ2 with
        | some (.ok y, ρ3) => if acc.length < 16777216 then lcL gm tst fe vs xs (acc ++ [y]) (wipeR vs ρ3) else none
        | _ => none)
      | some (.ok false, ρ2) => lcL gm tst fe vs xs acc (wipeR vs ρ2)
      | _ => none)) else none
def eLc (it : SM (List PV)) (gm : GM) (tst : SM Bool) (fe : SE) (vs : List Nat) : SE := it.bind fun xs => fun ρ => match lcL gm tst fe vs xs [] (wipeR vs ρ) with
  | some (acc, ρ') => some (.ok (.lst acc), ρ')
  | none => none
abbrev W0 : WX := fun _ _ _ _ => False
/-- for some frame -/
def xJ (S : Sg) (f : SE) : TE := fun σ H Q => ∃ φ, tJ S φ W0 f σ H Q
def xT (S : Sg) (f : SM Bool) : TT := fun σ H Q => ∃ φ, tT S φ W0 f σ H Q
def xG (S : Sg) (g : GM) (is : List Nat) : TG := fun v σ H Q => ∃ φ, gJ S φ g is v σ H Q
section
variable {X : Cx} {S : Sg} {φ : Fr} {W : WX}
theorem PE.all {e : Expr} {f : SE} (h : ∀ φ, JE X S φ W0 e f) : PE X e (xJ S f) := ⟨fun pins s σ H Q I ⟨φ, q⟩ => (h φ).run pins s σ H Q I q⟩
theorem PG.all {e : Expr} {g : GM} {is : List Nat} (h : ∀ φ, JG X S φ e g is) : PG X e (xG S g is) := ⟨fun pins s σ H v u Q I r ⟨φ, q⟩ => (h φ).run pins s σ H v u Q I r q⟩
theorem PTs.none : PTs X [] (xT S fun ρ => some (.ok true, ρ)) := ⟨fun pins s σ H Q I ⟨φ, ρ, F, r, st, e, o⟩ => by
  cases e
  exact pts_nil.run pins s σ H Q I (o F H st (Same.refl _))⟩
theorem PTs.one {c : Expr} {f : SM Bool} (h : ∀ φ, JT X S φ W0 c f) : PTs X [c] (xT S f) := ⟨fun pins s σ H Q I ⟨φ, q⟩ => (pts_one (h φ)).run pins s σ H Q I q⟩
end
end Y
namespace Y
open PySem PySem.Spec L2
end Y


namespace Y
open PySem PySem.Spec L2
section
variable {S : Sg} {φ : Fr} {F F' H H' : Hp} {σ : L2.St} {ρ : Rh}
/-- v is x as things stand now -/
def CtR (S : Sg) (F H : Hp) (x : PV) (v : V) : Prop := Rep S F x v ∨ ∃ p, v = .ref p ∧ Top S F H p x
theorem ct_of {a : Ar} {v : V} {x : PV} (s : Stt S φ ρ F σ H) (r : ArR S F σ a v) (e : contAr ρ a = some x) : CtR S F H x v := by
  cases a with
  | pv y =>
    have e : some y = some x := e
    cases e
    exact .inl r
  | own i =>
    unfold contAr at e
    dsimp only at e
    have r : σ[i]? = some (some v) := r
    split at e
    · rename_i y q
      cases e
      obtain ⟨p, h1, h2, h3, h4⟩ := s.slot i _ q
      rw [h1] at r
      cases r
      exact .inr ⟨p, rfl, h4⟩
    · rename_i y q
      cases e
      obtain ⟨p, h1, h2, h3, h4⟩ := s.slot i _ q
      rw [h1] at r
      cases r
      exact .inr ⟨p, rfl, h4⟩
    · cases e
def conts (ρ : Rh) : List Ar → Option (List PV)
  | [] => some []
  | a :: as => match contAr ρ a, conts ρ as with
    | some x, some xs => some (x :: xs)
    | _, _ => none
def CtsR (S : Sg) (F H : Hp) : List PV → List V → Prop
  | [], vs => vs = []
  | x :: xs, vs => ∃ v r, vs = v :: r ∧ CtR S F H x v ∧ CtsR S F H xs r
theorem cts_of (s : Stt S φ ρ F σ H) : ∀ {as : List Ar} {vs : List V} {xs : List PV}, ArsR S F σ as vs → conts ρ as = some xs → CtsR S F H xs vs
  | [], vs, xs, r, e => by
    cases e
    exact r
  | a :: as, vs, xs, r, e => by
    obtain ⟨v, r', rfl, h1, h2⟩ := r
    unfold conts at e
    split at e
    · rename_i x xs' e1 e2
      cases e
      exact ⟨v, r', rfl, ct_of s h1 e1, cts_of s h2 e2⟩
    · cases e
theorem CtR.list {xs : List PV} {v : V} (s : Same F H) (h : CtR S F H (.lst xs) v) : ∃ p vs, v = .ref p ∧ SqL S.K H p vs ∧ Reps S F xs vs := by
  rcases h with ⟨a, vs, h1, h2, h3⟩ | ⟨p, h1, vs, h2, h3⟩
  · exact ⟨a, vs, h1, SqL.same s h2, h3⟩
  · exact ⟨p, vs, h1, SqL.of h2, h3⟩
theorem CtR.tuple {xs : List PV} {v : V} (s : Same F H) (h : CtR S F H (.tup xs) v) : ∃ p vs, v = .ref p ∧ SqT S.K H p vs ∧ Reps S F xs vs := by
  rcases h with ⟨a, vs, h1, h2, h3⟩ | ⟨p, h1, h2⟩
  · exact ⟨a, vs, h1, SqT.same s h2, h3⟩
  · exact (show False from h2).elim
theorem CtR.int {i : Int} {v : V} (h : CtR S F H (.int i) v) : v = .int i := by
  rcases h with h | ⟨p, h1, h2⟩
  · exact h
  · exact (show False from h2).elim
theorem cts1 {x : PV} {vs : List V} (h : CtsR S F H [x] vs) : ∃ v, vs = [v] ∧ CtR S F H x v := by
  obtain ⟨v, r, rfl, h1, h2⟩ := h
  have h2 : r = [] := h2
  subst h2
  exact ⟨v, rfl, h1⟩
theorem reps_int {F : Hp} : ∀ {ns : List Int} {vs : List V}, Reps S F (ns.map .int) vs → vs = ns.map V.int
  | [], vs, h => h
  | n :: ns, vs, h => by
    obtain ⟨v, r, rfl, h1, h2⟩ := h
    have h1 : v = .int n := h1
    rw [h1, reps_int h2]
    rfl
end
/-- a name, to be read later as it will be then -/
def aH (i : Nat) : SM Ar := fun ρ => match ρ[i]? with
  | some (.pu x) => some (.ok (.pv x), ρ)
  | some (.ow _) => some (.ok (.own i), ρ)
  | some (.io _) => some (.ok (.own i), ρ)
  | _ => none
/-- several contents at the end -/
def atEnd {α : Type} (f : List PV → Option α) (as : List Ar) : SM α := fun ρ => match conts ρ as with
  | some xs => (match f xs with
    | some z => some (.ok z, ρ)
    | none => none)
  | none => none
/-- two operands -/
def on2 {α : Type} (op : PV → PV → Option α) : List PV → Option α
  | [x, y] => op x y
  | _ => none
def eOpH (op : PV → PV → Option PV) (fa fb : SM Ar) : SE := fa.bind fun a => fb.bind fun b => atEnd (on2 op) [a, b]
def nOpH (op : PV → PV → Option (List PV)) (fa fb : SM Ar) : SE := fa.bind fun a => fb.bind fun b => atEnd (fun xs => (on2 op xs).map .lst) [a, b]
def eBfH (op : List PV → Option PV) (fa : SM (List Ar)) : SE := fa.bind (atEnd op)
def nBfH (op : List PV → Option (List PV)) (fa : SM (List Ar)) : SE := fa.bind (atEnd fun xs => (op xs).map .lst)
theorem atEnd_ok {α : Type} {f : List PV → Option α} {as : List Ar} {ρ : Rh} {r : Ou α × Rh} (h : atEnd f as ρ = some r) : ∃ xs z, conts ρ as = some xs ∧ f xs = some z ∧ r = (.ok z, ρ) := by
  unfold atEnd at h
  split at h
  · rename_i xs e1
    split at h
    · rename_i z e2
      cases h
      exact ⟨xs, z, e1, e2, rfl⟩
    · cases h
  · cases h
section
variable {X : Cx} {S : Sg} {φ : Fr} {W : WX} {e a b : Expr} {es : List Expr} {fa fb : SM Ar} {fs : SM (List Ar)} {pos : Pos}
theorem jx_h (i : Nat) {x : Str} (hN : X.N[i]? = some x := by rfl) (hv : Vis X.env.scope x := by first | exact Or.inl rfl | exact Or.inr (Or.inl rfl) | exact Or.inr (Or.inr rfl)) (hd : (x == ("__debug__" : Str)) = false := by decide)
    (hcd : (x == ("__classdict__" : Str)) = false := by decide) : JX X S φ W (.Name x pos) (aH i) := (pe_var hN hv hd hcd).imp fun σ H Q ⟨ρ, F, r, s, e1, o⟩ => by
  unfold aH at e1
  split at e1
  · rename_i y q
    cases e1
    obtain ⟨v, h1, h2⟩ := s.slot i _ q
    exact ⟨v, h1, o F H s (Same.refl _) _ h2⟩
  · rename_i y q
    cases e1
    obtain ⟨p, h1, _⟩ := s.mt q (.ow y)
    exact ⟨_, h1, o F H s (Same.refl _) _ h1⟩
  · rename_i y q
    cases e1
    obtain ⟨p, h1, _⟩ := s.mt q (.io y)
    exact ⟨_, h1, o F H s (Same.refl _) _ h1⟩
  · cases e1
def H2 (X : Cx) (S : Sg) (fv : Value → Value → Sem Value) (op : PV → PV → Option PV) : Prop :=
  ∃ r : R2, OpR X fv r ∧ ∀ (F H : Hp) (x y z : PV) (v w : V) (Q : VK), Same F H → CtR S F H x v → CtR S F H y w → op x y = some z → (∀ u F' H', Gw F H F' H' → Rep S F' z u → Q u H') → r v w H Q
def N2 (X : Cx) (S : Sg) (fv : Value → Value → Sem Value) (op : PV → PV → Option (List PV)) : Prop :=
  ∃ r : R2, OpR X fv r ∧ ∀ (F H : Hp) (x y : PV) (zs : List PV) (v w : V) (Q : VK), Same F H → CtR S F H x v → CtR S F H y w → op x y = some zs → (∀ p vs, H p = none → Reps S F zs vs → Q (.ref p) (upd H p (.lst vs))) → r v w H Q
theorem twoH {op : PV → PV → Option PV} {r : R2} (h2 : ∀ (F H : Hp) (x y z : PV) (v w : V) (Q : VK), Same F H → CtR S F H x v → CtR S F H y w → op x y = some z → (∀ u F' H', Gw F H F' H' → Rep S F' z u → Q u H') → r v w H Q)
    {σ : L2.St} {H : Hp} {Q : VK} (h : tJ S φ W (eOpH op fa fb) σ H Q) : tOp r (tX S φ W fa) (tX S φ W fb) σ H Q := by
  obtain ⟨ρ, F, z, s, e1, o⟩ := h
  obtain ⟨r1, e2, o2⟩ := OG.seq e1 o
  refine ⟨ρ, F, r1, s, e2, o2.imp fun x ρ1 F1 H1 s1 m1 ⟨r2, e3, o3⟩ v hv => ?_⟩
  obtain ⟨r3, e4, o4⟩ := OG.seq e3 o3
  refine ⟨ρ1, F1, r3, s1, e4, o4.imp fun y ρ2 F2 H2 s2 m2 ⟨r4, e5, o5⟩ w hw => ?_⟩
  obtain ⟨xs, z, q1, q2, rfl⟩ := atEnd_ok e5
  have ct := cts_of s2 (as := [x, y]) (vs := [v, w]) ⟨v, _, rfl, hv.mono m2, w, _, rfl, hw, rfl⟩ q1
  match xs, q2, ct with
  | [x', y'], q2, ct =>
    obtain ⟨v', r', e6, c1, w', r'', e7, c2, e8⟩ := ct
    cases e6
    cases e7
    exact h2 F2 H2 x' y' z _ _ Q s2.same c1 c2 q2 fun u F' H' g ru => o5 F' H' (s2.grow g) g.f u ru
theorem twoN {op : PV → PV → Option (List PV)} {r : R2} (h2 : ∀ (F H : Hp) (x y : PV) (zs : List PV) (v w : V) (Q : VK), Same F H → CtR S F H x v → CtR S F H y w → op x y = some zs → (∀ p vs, H p = none → Reps S F zs vs → Q (.ref p) (upd H p (.lst vs))) → r v w H Q)
    {σ : L2.St} {H : Hp} {Q : VK} (h : tN S φ W (nOpH op fa fb) σ H Q) : tOp r (tX S φ W fa) (tX S φ W fb) σ H Q := by
  obtain ⟨ρ, F, z, s, e1, o⟩ := h
  obtain ⟨r1, e2, o2⟩ := OG.seq e1 o
  refine ⟨ρ, F, r1, s, e2, o2.imp fun x ρ1 F1 H1 s1 m1 ⟨r2, e3, o3⟩ v hv => ?_⟩
  obtain ⟨r3, e4, o4⟩ := OG.seq e3 o3
  refine ⟨ρ1, F1, r3, s1, e4, o4.imp fun y ρ2 F2 H2 s2 m2 ⟨r4, e5, o5⟩ w hw => ?_⟩
  obtain ⟨xs, z, q1, q2, rfl⟩ := atEnd_ok e5
  have ct := cts_of s2 (as := [x, y]) (vs := [v, w]) ⟨v, _, rfl, hv.mono m2, w, _, rfl, hw, rfl⟩ q1
  match xs, q2, ct with
  | [x', y'], q2, ct =>
    obtain ⟨v', r', e6, c1, w', r'', e7, c2, e8⟩ := ct
    cases e6
    cases e7
    have q2 : (op x' y').map PV.lst = some z := q2
    cases q3 : op x' y' with
    | none => rw [q3] at q2; cases q2
    | some zs =>
      rw [q3] at q2
      cases q2
      refine h2 F2 H2 x' y' zs _ _ Q s2.same c1 c2 q3 fun p vs hp rz => ?_
      obtain ⟨s3, nw⟩ := s2.newOwn (o := .lst vs) hp
      exact o5 _ _ s3 (Same.refl _) p nw ⟨vs, upd_same, rz⟩
theorem jt_cmpH {o : CmpOp} {op : PV → PV → Option PV} (ho : H2 X S (compareOp o) op) (ha : JX X S φ W a fa) (hb : JX X S φ W b fb) (hm : behindInMarks o b = false) : JT X S φ W (.Compare a [o] [b] pos) (eBl (eOpH op fa fb)) := by
  obtain ⟨r, h1, h2⟩ := ho
  exact (pt_cmpR h1 ha hb hm).imp fun σ H Q h => test_of (fun σ H Q h => twoH h2 h) h
theorem jn_opH {o : Operator} {op : PV → PV → Option (List PV)} (ho : N2 X S (binaryOp o) op) (ha : JX X S φ W a fa) (hb : JX X S φ W b fb) : JN X S φ W (.BinOp a o b pos) (nOpH op fa fb) := by
  obtain ⟨r, h1, h2⟩ := ho
  exact (pe_op h1 ha hb).imp fun σ H Q h => twoN h2 h
def HfR (X : Cx) (S : Sg) (fv : Value) (op : List PV → Option PV) : Prop :=
  ∃ r : List V → Hp → VK → Prop, CallR X fv r ∧ ∀ (F H : Hp) (xs : List PV) (z : PV) (vs : List V) (Q : VK), Same F H → CtsR S F H xs vs → op xs = some z → (∀ u F' H', Gw F H F' H' → Rep S F' z u → Q u H') → r vs H Q
def NfR (X : Cx) (S : Sg) (fv : Value) (op : List PV → Option (List PV)) : Prop :=
  ∃ r : List V → Hp → VK → Prop, CallR X fv r ∧ ∀ (F H : Hp) (xs zs : List PV) (vs : List V) (Q : VK), Same F H → CtsR S F H xs vs → op xs = some zs → (∀ p vs, H p = none → Reps S F zs vs → Q (.ref p) (upd H p (.lst vs))) → r vs H Q
theorem bfH {op : List PV → Option PV} {r : List V → Hp → VK → Prop} (h2 : ∀ (F H : Hp) (xs : List PV) (z : PV) (vs : List V) (Q : VK), Same F H → CtsR S F H xs vs → op xs = some z → (∀ u F' H', Gw F H F' H' → Rep S F' z u → Q u H') → r vs H Q)
    {σ : L2.St} {H : Hp} {Q : VK} (h : tJ S φ W (eBfH op fs) σ H Q) : tCB r (tA S φ W fs) σ H Q := by
  obtain ⟨ρ, F, z, s, e1, o⟩ := h
  obtain ⟨r1, e2, o2⟩ := OG.seq e1 o
  refine ⟨ρ, F, r1, s, e2, o2.imp fun as ρ1 F1 H1 s1 m1 ⟨r2, e3, o3⟩ vs hvs => ?_⟩
  obtain ⟨xs, z, q1, q2, rfl⟩ := atEnd_ok e3
  exact h2 F1 H1 xs z vs Q s1.same (cts_of s1 hvs q1) q2 fun u F' H' g ru => o3 F' H' (s1.grow g) g.f u ru
theorem bfN {op : List PV → Option (List PV)} {r : List V → Hp → VK → Prop} (h2 : ∀ (F H : Hp) (xs zs : List PV) (vs : List V) (Q : VK), Same F H → CtsR S F H xs vs → op xs = some zs → (∀ p vs, H p = none → Reps S F zs vs → Q (.ref p) (upd H p (.lst vs))) → r vs H Q)
    {σ : L2.St} {H : Hp} {Q : VK} (h : tN S φ W (nBfH op fs) σ H Q) : tCB r (tA S φ W fs) σ H Q := by
  obtain ⟨ρ, F, z, s, e1, o⟩ := h
  obtain ⟨r1, e2, o2⟩ := OG.seq e1 o
  refine ⟨ρ, F, r1, s, e2, o2.imp fun as ρ1 F1 H1 s1 m1 ⟨r2, e3, o3⟩ vs hvs => ?_⟩
  obtain ⟨xs, z, q1, q2, rfl⟩ := atEnd_ok e3
  cases q3 : op xs with
  | none => rw [q3] at q2; cases q2
  | some zs =>
    rw [q3] at q2
    cases q2
    refine h2 F1 H1 xs zs vs Q s1.same (cts_of s1 hvs q1) q3 fun p vs hp rz => ?_
    obtain ⟨s3, nw⟩ := s1.newOwn (o := .lst vs) hp
    exact o3 _ _ s3 (Same.refl _) p nw ⟨vs, upd_same, rz⟩
variable {x : Str} {p : Pos} {id : String}
theorem je_bfH {op : List PV → Option PV} (hb : HfR X S (.builtin id) op) (hm : X.mg x = none) (ha : JA X S φ W (e :: es) fs) (hg : Gl X x := by rfl) (hv : bootBuiltins x = some (.builtin id) := by decide +kernel) (hn : x ≠ "__name__" := by decide) (hdb : (x == ("__debug__" : Str)) = false := by decide)
    (he : starEach (e :: es) X.env = (false, eval e X.env) :: starEach es X.env := by rfl) (hpl : (backTo pos (starEach es X.env)).any (·.1) = false := by rfl) : JE X S φ W (.Call (.Name x p) (e :: es) [] pos) (eBfH op fs) := by
  obtain ⟨r, h1, h2⟩ := hb
  exact (pe_callB h1 hg hm hv ha hn hdb he hpl).imp fun σ H Q h => bfH h2 h
theorem jn_bfH {op : List PV → Option (List PV)} (hb : NfR X S (.builtin id) op) (hm : X.mg x = none) (ha : JA X S φ W (e :: es) fs) (hg : Gl X x := by rfl) (hv : bootBuiltins x = some (.builtin id) := by decide +kernel) (hn : x ≠ "__name__" := by decide) (hdb : (x == ("__debug__" : Str)) = false := by decide)
    (he : starEach (e :: es) X.env = (false, eval e X.env) :: starEach es X.env := by rfl) (hpl : (backTo pos (starEach es X.env)).any (·.1) = false := by rfl) : JN X S φ W (.Call (.Name x p) (e :: es) [] pos) (nBfH op fs) := by
  obtain ⟨r, h1, h2⟩ := hb
  exact (pe_callB h1 hg hm hv ha hn hdb he hpl).imp fun σ H Q h => bfN h2 h
theorem jn_btH {op : List PV → Option (List PV)} (hb : NfR X S (.type id) op) (hm : X.mg x = none) (ha : JA X S φ W (e :: es) fs) (hg : Gl X x := by rfl) (hv : bootBuiltins x = some (.type id) := by decide +kernel) (hn : x ≠ "__name__" := by decide) (hdb : (x == ("__debug__" : Str)) = false := by decide)
    (he : starEach (e :: es) X.env = (false, eval e X.env) :: starEach es X.env := by rfl) (hpl : (backTo pos (starEach es X.env)).any (·.1) = false := by rfl) : JN X S φ W (.Call (.Name x p) (e :: es) [] pos) (nBfH op fs) := by
  obtain ⟨r, h1, h2⟩ := hb
  exact (pe_callTy h1 hg hm hv ha hn hdb he hpl).imp fun σ H Q h => bfN h2 h
end
/-- the intsP of a list -/
def intsP : List PV → Option (List Int)
  | [] => some []
  | .int i :: xs => (intsP xs).map fun r => i :: r
  | _ :: _ => none
theorem ints_map : ∀ {xs : List PV} {ns : List Int}, intsP xs = some ns → xs = ns.map .int
  | [], ns, h => by cases h; rfl
  | x :: xs, ns, h => by
    cases x with
    | int i =>
      have h : (intsP xs).map (fun r => i :: r) = some ns := h
      cases q : intsP xs with
      | none => rw [q] at h; cases h
      | some r =>
        rw [q] at h
        cases h
        rw [ints_map q]
        rfl
    | _ => cases h
theorem ints_of : ∀ (ns : List Int), intsP (ns.map PV.int) = some ns
  | [] => rfl
  | n :: ns => by
    show (intsP (ns.map PV.int)).map (fun r => n :: r) = _
    rw [ints_of ns]
    rfl
def bListO : List PV → Option (List PV)
  | [.lst xs] => some xs
  | [.tup xs] => some xs
  | _ => none
def bSum : List PV → Option PV
  | [.lst xs] => (intsP xs).map fun ns => .int ns.sum
  | _ => none
def srt (ns : List Int) : List Int := ns.mergeSort fun a b => decide (a ≤ b)
def bSorted : List PV → Option (List PV)
  | [.lst xs] => (intsP xs).map fun ns => (srt ns).map .int
  | _ => none
def mxI : List Int → Option Int
  | [] => none
  | n :: ns => some (ns.foldl max n)
def mnI : List Int → Option Int
  | [] => none
  | n :: ns => some (ns.foldl min n)
def bMaxL : List PV → Option PV
  | [.lst xs] => (intsP xs).bind fun ns => (mxI ns).map .int
  | _ => none
def bMinL : List PV → Option PV
  | [.lst xs] => (intsP xs).bind fun ns => (mnI ns).map .int
  | _ => none
theorem srt_perm (ns : List Int) : (srt ns).Perm ns := List.mergeSort_perm _ _
theorem srt_pair (ns : List Int) : (srt ns).Pairwise (· ≤ ·) := by
  have h := List.pairwise_mergeSort (le := fun a b : Int => decide (a ≤ b)) (by intro a b c h1 h2; simp at *; omega) (by intro a b; simp; omega) ns
  exact h.imp fun h => by simpa using h
theorem srt_uniq : ∀ {a b : List Int}, a.Perm b → a.Pairwise (· ≤ ·) → b.Pairwise (· ≤ ·) → a = b := fun {a b} p h1 h2 => List.Perm.eq_of_pairwise (le := (· ≤ ·)) (fun x y _ _ h h' => Int.le_antisymm h h') h1 h2 p
section
variable {X : Cx} {S : Sg}
theorem CtR.nums {F H : Hp} {xs : List PV} {v : V} {ns : List Int} (s : Same F H) (h : CtR S F H (.lst xs) v) (e : intsP xs = some ns) : ∃ p, v = .ref p ∧ SqL S.K H p (ns.map V.int) := by
  obtain ⟨p, vs, rfl, h2, h3⟩ := h.list s
  rw [ints_map e] at h3
  rw [reps_int h3] at h2
  exact ⟨p, rfl, h2⟩
theorem reps_of_ints {F : Hp} : ∀ (ns : List Int), Reps S F (ns.map .int) (ns.map V.int) := reps_ints
theorem b_list (hK : X.K = S.K) : NfR X S (.type "list") bListO := ⟨_, call_list_of, fun F H xs zs vs Q s r e k => by
  unfold bListO at e
  split at e
  · cases e
    obtain ⟨v, rfl, h⟩ := cts1 r
    obtain ⟨p, vs, rfl, h2, h3⟩ := h.list s
    exact ⟨p, vs, rfl, .inl (by rw [hK]; exact h2), fun l hl => k l vs hl h3⟩
  · cases e
    obtain ⟨v, rfl, h⟩ := cts1 r
    obtain ⟨p, vs, rfl, h2, h3⟩ := h.tuple s
    exact ⟨p, vs, rfl, .inr (by rw [hK]; exact h2), fun l hl => k l vs hl h3⟩
  · cases e⟩
theorem b_sum (hc : X.calm = true) (hK : X.K = S.K) : HfR X S (.builtin "sum") bSum := ⟨_, cr_sum hc, fun F H xs z vs Q s r e k => by
  unfold bSum at e
  split at e
  · rename_i xs
    obtain ⟨v, rfl, h⟩ := cts1 r
    cases q : intsP xs with
    | none => rw [q] at e; cases e
    | some ns =>
      rw [q] at e
      cases e
      obtain ⟨p, rfl, h2⟩ := h.nums s q
      exact ⟨p, ns, rfl, by rw [hK]; exact h2, k _ F H (Gw.rfl' s) rfl⟩
  · cases e⟩
theorem b_sorted (hK : X.K = S.K) : NfR X S (.builtin "sorted") bSorted := ⟨_, cr_sortedI, fun F H xs zs vs Q s r e k => by
  unfold bSorted at e
  split at e
  · rename_i xs
    obtain ⟨v, rfl, h⟩ := cts1 r
    cases q : intsP xs with
    | none => rw [q] at e; cases e
    | some ns =>
      rw [q] at e
      cases e
      obtain ⟨p, rfl, h2⟩ := h.nums s q
      refine ⟨p, ns, rfl, by rw [hK]; exact h2, fun ns' p pm pw hp => ?_⟩
      have e2 : ns' = srt ns := srt_uniq (pm.trans (srt_perm ns).symm) pw (srt_pair ns)
      rw [e2]
      exact k p _ hp (reps_of_ints _)
  · cases e⟩
end
mutual
def dat : PV → Option PyData
  | .non => some .none
  | .bl b => some (.bool b)
  | .int i => some (.int i)
  | .str x => some (.str x)
  | .tup xs => (dats xs).map .tuple
  | .lst xs => (dats xs).map .list
  | _ => none
def dats : List PV → Option (List PyData)
  | [] => some []
  | x :: xs => match dat x, dats xs with
    | some d, some ds => some (d :: ds)
    | _, _ => none
end
section
variable {S : Sg} {F H : Hp}
mutual
theorem dp_rep (s : Same F H) : ∀ (x : PV) (v : V) (d : PyData), Rep S F x v → dat x = some d → Dp S.K H v d
  | .non, v, d, r, e => by
    cases e
    have r : v = .non := r
    rw [r]
    exact .non
  | .bl b, v, d, r, e => by
    cases e
    have r : v = .bl b := r
    rw [r]
    exact .bl b
  | .int i, v, d, r, e => by
    cases e
    have r : v = .int i := r
    rw [r]
    exact .int i
  | .str x, v, d, r, e => by
    cases e
    have r : v = .str x := r
    rw [r]
    exact .str x
  | .tup xs, v, d, r, e => by
    obtain ⟨a, vs, rfl, h2, h3⟩ := r
    unfold dat at e
    cases q : dats xs with
    | none => rw [q] at e; cases e
    | some ds =>
      rw [q] at e
      cases e
      exact .tup (SqT.same s h2) (dp_reps s xs vs ds h3 q)
  | .lst xs, v, d, r, e => by
    obtain ⟨a, vs, rfl, h2, h3⟩ := r
    unfold dat at e
    cases q : dats xs with
    | none => rw [q] at e; cases e
    | some ds =>
      rw [q] at e
      cases e
      exact .lst (SqL.same s h2) (dp_reps s xs vs ds h3 q)
  | .ty _, _, _, _, e => by cases e
  | .cls _, _, _, _, e => by cases e
  | .dct _ _, _, _, _, e => by cases e
  | .dcn _ _, _, _, _, e => by cases e
  | .obj _ _, _, _, _, e => by cases e
  | .xad _, _, _, _, e => by cases e
  | .dtt _ _, _, _, _, e => by cases e
  | .err _, _, _, _, e => by cases e
theorem dp_reps (s : Same F H) : ∀ (xs : List PV) (vs : List V) (ds : List PyData), Reps S F xs vs → dats xs = some ds → DpAll S.K H vs ds
  | [], vs, ds, r, e => by
    cases e
    have r : vs = [] := r
    rw [r]
    exact .nil
  | x :: xs, vs, ds, r, e => by
    obtain ⟨v, r', rfl, h1, h2⟩ := r
    unfold dats at e
    cases q : dat x with
    | none => rw [q] at e; cases e
    | some d =>
      cases q2 : dats xs with
      | none => rw [q, q2] at e; cases e
      | some ds' =>
        rw [q, q2] at e
        cases e
        exact .cons (dp_rep s x v d h1 q) (dp_reps s xs r' ds' h2 q2)
end
theorem dp_ct (s : Same F H) {x : PV} {v : V} {d : PyData} (r : CtR S F H x v) (e : dat x = some d) : Dp S.K H v d := by
  rcases r with r | ⟨p, rfl, t⟩
  · exact dp_rep s x v d r e
  · cases x with
    | lst xs =>
      obtain ⟨vs, h1, h2⟩ := t
      unfold dat at e
      cases q : dats xs with
      | none => rw [q] at e; cases e
      | some ds =>
        rw [q] at e
        cases e
        exact .lst (SqL.of h1) (dp_reps s xs vs ds h2 q)
    | dct ks xs => cases e
    | dcn ks xs => cases e
    | dtt ks xs => cases e
    | obj c xs => cases e
    | _ => exact (show False from t).elim
end
def okD (d : PyData) : Bool := SeqAt.shaped d
def oEqD (x y : PV) : Option PV := match dat x, dat y with
  | some d, some e => if (okD d && okD e) = true then some (.bl (PyData.eqv d e)) else none
  | _, _ => none
def oNeD (x y : PV) : Option PV := match dat x, dat y with
  | some d, some e => if (okD d && okD e) = true then some (.bl (!PyData.eqv d e)) else none
  | _, _ => none
def oInD (x y : PV) : Option PV := match dat x, y with
  | some d, .lst ys => (match dats ys with
    | some ds => if (okD d && okD (.list ds)) = true then some (.bl (ds.any fun z => PyData.eqv z d)) else none
    | none => none)
  | _, _ => none
def oNotInD (x y : PV) : Option PV := match dat x, y with
  | some d, .lst ys => (match dats ys with
    | some ds => if (okD d && okD (.list ds)) = true then some (.bl (!ds.any fun z => PyData.eqv z d)) else none
    | none => none)
  | _, _ => none
section
variable {X : Cx} {S : Sg}
theorem h_neD (hK : X.K = S.K) (hu : X.A.units + 64 < cLine) : H2 X S (compareOp .NotEq) oNeD := ⟨_, op_neD hu, fun F H x y z v w Q s rx ry e k => by
  unfold oNeD at e
  split at e
  · rename_i d d' e1 e2
    split at e
    · rename_i h
      cases e
      obtain ⟨h1, h2⟩ := Bool.and_eq_true_iff.mp h
      exact ⟨d, d', by rw [hK]; exact dp_ct s rx e1, by rw [hK]; exact dp_ct s ry e2, h1, h2, k _ F H (Gw.rfl' s) rfl⟩
    · cases e
  · cases e⟩
end
end Y


namespace Y
open PySem PySem.Spec L2 PyProof.Rows
theorem list_extendW (l : Addr) (items : Array Value) (n : Nat) (b : Addr) (items2 : Array Value) (n2 : Nat) (dd2 : Option Addr) (sl2 : Array (Option Value)) (hc0 : ¬(!items.isEmpty && Builtin.List.listTooLong (items.size + items2.size)) = true) (hc1 : items.size ≤ sizeLine) (hs2 : items.size + items2.size ≤ sizeLine + 1) :
    Meets (Builtin.«list.extend» ⟨[.ref l, .ref b], []⟩) (fun _ R s => s.heap.get? l = some { cls := .type "list", dict := none, data := .seq items n, slots := #[] } ∧ s.heap.get? b = some { cls := .type "list", dict := dd2, data := .seq items2 n2, slots := sl2 } ∧ R (.ok (.ret Value.none)) { s with heap := s.heap.update l (Obj.mapSeq fun x => x ++ items2), toks := s.toks }) :=
  .of_wp fun prog w A R s h => by
    obtain ⟨hp, g, d, tk, os⟩ := s; obtain ⟨hl, hb, h⟩ := h; have f1 := AutoSeq1.idx_int; have f2 := AutoSeq1.sub_tuple_tuple; have f3 := AutoSeq1.sub_list_list; have f4 := AutoSeq1.sub_tuple_list; have f5 := AutoSeq1.sub_list_tuple;
    have hz' : (items ++ items2).size ≤ sizeLine + 1 := by rw [Array.size_append]; exact hs2
    wp_walk using (wpAny_updateSeq hl rfl (hz := hc1) (_hz' := hz')), wpAny_loadPart' hl, wpAny_loadPart' hb; exact ⟨_, rfl, h⟩
def rCatS (K : PySem.W.Frag) : R2 := fun x y H Q => ∃ l b xs zs, x = .ref l ∧ y = .ref b ∧ SqL K H l xs ∧ SqL K H b zs ∧ xs.length + zs.length ≤ sizeLine ∧ ∀ p, H p = none → Q (.ref p) (upd H p (.lst (xs ++ zs)))
theorem op_catS {X : Cx} : OpR X (binaryOp .Add) (rCatS X.K) := by
  intro pins s σ H x y v u Q I rx ry h
  obtain ⟨l, b, xs, zs, rfl, rfl, hH, hB, hz, q⟩ := h
  cases rx
  cases ry
  obtain ⟨its, r, e, z⟩ := I.list hH
  obtain ⟨its2, r2, e2, z2⟩ := I.list hB
  obtain ⟨⟨cls, dd, data, sl⟩, ho, hc, n, hd⟩ := e.isList
  obtain ⟨⟨cls2, dd2, data2, sl2⟩, ho2, hc2, n2, hd2⟩ := e2.isList
  simp only at hc hd hc2 hd2
  subst hc hd hc2 hd2
  have ea : its.toArray ++ its2.toArray = (its ++ its2).toArray := by simp
  have l1 := r.length
  have l2 := r2.length
  refine concat_meets ⟨_, ho, rfl⟩ ⟨_, ho2, rfl⟩ noFill_list_add seq_list_add PySem.F.slot_list_add PySem.F.entry_list_add (PySem.F.args_list_add_2 _ _) (list_addW l b its.toArray its2.toArray n n2 dd dd2 sl sl2 (by rw [List.size_toArray, List.size_toArray]; omega)) ⟨ho, ho2, ?_⟩
  rw [ea]
  exact ⟨.ref _, _, I.lnew (t' := s.toks) (r.append r2) (by rw [List.length_append]; omega), rfl, q _ I.fresh⟩
def rExtS (K : PySem.W.Frag) : V → List V → Hp → VK → Prop := fun x vs H Q => ∃ l b xs zs, x = .ref l ∧ vs = [.ref b] ∧ H l = some (.lst xs) ∧ SqL K H b zs ∧ xs.length + zs.length ≤ sizeLine ∧ Q .non (upd H l (.lst (xs ++ zs)))
theorem mt_extendS {X : Cx} : MtR X "list.extend" (rExtS X.K) := by
  intro pins s σ H x vs v us Q I rx rv h
  obtain ⟨l, b, xs, zs, rfl, rfl, hH, hB, hz, q⟩ := h
  cases rx
  obtain ⟨u, rfl, ru⟩ := rv.one
  cases ru
  obtain ⟨z, its, n, r, hl, e⟩ := I.lstM hH
  obtain ⟨its2, r2, e2, z2⟩ := I.list hB
  obtain ⟨⟨cls2, dd2, data2, sl2⟩, ho2, hc2, n2, hd2⟩ := e2.isList
  simp only at hc2 hd2
  subst hc2 hd2
  have l2 := r2.length
  have hsz : its.toArray.size + its2.toArray.size ≤ sizeLine := by rw [List.size_toArray, List.size_toArray]; omega
  have hlong : ¬ (!its.toArray.isEmpty && Builtin.List.listTooLong (its.toArray.size + its2.toArray.size)) = true := by
    rw [notLongL hsz, Bool.and_false]
    exact Bool.false_ne_true
  refine call_meets F.slot_list_extend ⟨_, e, rfl⟩ F.entry_list_extend (F.args_list_extend_2 _ _)
    (list_extendW l its.toArray n b its2.toArray n2 dd2 sl2 hlong (by rw [List.size_toArray]; omega) (by omega)) ⟨e, ho2, ?_⟩
  refine ⟨.non, _, I.lset (its' := its ++ its2) hH e (by simp) (r.append r2) ?_, rfl, q⟩
  rw [List.length_append]
  omega
def oCat : PV → PV → Option (List PV)
  | .lst xs, .lst ys => if xs.length + ys.length ≤ 16777216 then some (xs ++ ys) else none
  | _, _ => none
section
variable {X : Cx} {S : Sg} {φ : Fr} {W : WX} {e a b : Expr} {es : List Expr} {fe fb : SE} {fx : SM Ar} {pos : Pos}
theorem n_cat (hK : X.K = S.K) : N2 X S (binaryOp .Add) oCat := ⟨_, op_catS, fun F H x y zs v w Q s rx ry e k => by
  unfold oCat at e
  split at e
  · rename_i xs ys
    split at e
    · rename_i hz
      cases e
      obtain ⟨p, vs, rfl, h2, h3⟩ := rx.list s
      obtain ⟨p', vs', rfl, h2', h3'⟩ := ry.list s
      refine ⟨p, p', vs, vs', rfl, rfl, by rw [hK]; exact h2, by rw [hK]; exact h2', ?_, fun q hq => k q _ hq (Reps.append h3 h3')⟩
      rw [sizeLine_eq, ← h3.length, ← h3'.length]
      exact hz
    · cases e
  · cases e⟩
/-- [..] * n, a new list -/
def nRep (fa fb : SE) : SE := fa.bind fun x => fb.bind fun y => fun ρ => match x, y with
  | .lst xs, .int k => if k < 1000000 ∧ -1000000 < k ∧ xs.length * k.toNat ≤ 16777216 then some (.ok (.lst (List.replicate k.toNat xs).flatten), ρ) else none
  | _, _ => none
theorem Reps.rep {F : Hp} {xs : List PV} {vs : List V} (h : Reps S F xs vs) : ∀ n : Nat, Reps S F (List.replicate n xs).flatten (List.replicate n vs).flatten
  | 0 => rfl
  | n + 1 => by
    rw [List.replicate_succ, List.replicate_succ, List.flatten_cons, List.flatten_cons]
    exact Reps.append h (Reps.rep h n)
def posO (f : Option SE) : SM (Option Int) := match f with
  | none => fun ρ => some (.ok none, ρ)
  | some f => f.bind fun x ρ => match x with
    | .int i => some (.ok (some i), ρ)
    | _ => none
def tO (f : SM (Option Int)) : TO := fun σ H Q => ∃ ρ F r, Stt S φ ρ F σ H ∧ f ρ = some r ∧ OG S φ W F σ (fun b ρ' F' H' => Q b H') r
theorem jo_none : PO X none (tO (S := S) (φ := φ) (W := W) (posO none)) := ⟨fun pins s σ H Q I ⟨ρ, F, r, st, e1, o⟩ => by
  cases e1
  exact po_none.run pins s σ H Q I (o F H st (Same.refl _))⟩
theorem jo_some (h : JE X S φ W e fe) : PO X (some e) (tO (S := S) (φ := φ) (W := W) (posO (some fe))) := ⟨fun pins s σ H Q I ⟨ρ, F, r, st, e1, o⟩ => by
  refine (po_some h).run pins s σ H Q I ?_
  obtain ⟨r1, e2, o2⟩ := OG.seq e1 o
  refine ⟨ρ, F, r1, st, e2, o2.imp fun x ρ1 F1 H1 s1 m1 ⟨r2, e3, o3⟩ v hv => ?_⟩
  cases x with
  | int i =>
    cases e3
    exact ⟨i, hv, o3 F1 H1 s1 (Same.refl _)⟩
  | _ => cases e3⟩
/-- a list's part -/
def cutP (xs : List PV) (lo hi : Option Int) : List PV := (xs.drop (HT.sIx xs.length 0 lo)).take (HT.sIx xs.length xs.length hi - HT.sIx xs.length 0 lo)
theorem Reps.cut {F : Hp} {xs : List PV} {vs : List V} (h : Reps S F xs vs) (lo hi : Option Int) : Reps S F (cutP xs lo hi) (cutV vs lo hi) := by
  unfold cutP cutV
  rw [h.length]
  exact Reps.take _ (Reps.drop _ h)
def nSl (fx : SM Ar) (fl fh : SM (Option Int)) : SE := fx.bind fun a => fl.bind fun lo => fh.bind fun hi ρ => match contAr ρ a with
  | some (.lst xs) => some (.ok (.lst (cutP xs lo hi)), ρ)
  | _ => none
theorem jn_sl {lo hi : Option Expr} {fl fh : SM (Option Int)} {p2 : Pos} (hK : X.K = S.K) (hx : JX X S φ W e fx) (hl : PO X lo (tO (S := S) (φ := φ) (W := W) fl)) (hh : PO X hi (tO (S := S) (φ := φ) (W := W) fh)) : JN X S φ W (.Subscript e (.Slice lo hi none p2) pos) (nSl fx fl fh) := (pe_slice sl_list hx hl hh).imp fun σ H Q ⟨ρ, F, r, s, e1, o⟩ => by
  obtain ⟨r1, e2, o2⟩ := OG.seq e1 o
  refine ⟨ρ, F, r1, s, e2, o2.imp fun a ρ1 F1 H1 s1 m1 ⟨r2, e3, o3⟩ v hv => ?_⟩
  obtain ⟨r3, e4, o4⟩ := OG.seq e3 o3
  refine ⟨ρ1, F1, r3, s1, e4, o4.imp fun lo ρ2 F2 H2 s2 m2 ⟨r4, e5, o5⟩ => ?_⟩
  obtain ⟨r5, e6, o6⟩ := OG.seq e5 o5
  refine ⟨ρ2, F2, r5, s2, e6, o6.imp fun hi ρ3 F3 H3 s3 m3 ⟨r6, e7, o7⟩ => ?_⟩
  dsimp only at e7
  split at e7
  · rename_i xs q
    cases e7
    obtain ⟨p, vs, rfl, h2, h3⟩ := (ct_of s3 (hv.mono (m2.trans m3)) q).list s3.same
    refine ⟨p, vs, rfl, by rw [hK]; exact h2, fun q hq => ?_⟩
    obtain ⟨s4, nw⟩ := s3.newOwn (o := .lst (cutV vs lo hi)) hq
    exact o7 _ _ s4 (Same.refl _) q nw ⟨_, upd_same, h3.cut lo hi⟩
  · cases e7
theorem Reps.reverse {F : Hp} : ∀ {xs : List PV} {vs : List V}, Reps S F xs vs → Reps S F xs.reverse vs.reverse
  | [], vs, h => by
    have h : vs = [] := h
    rw [h]
    exact rfl
  | x :: xs, vs, h => by
    obtain ⟨v, r, rfl, h1, h2⟩ := h
    rw [List.reverse_cons, List.reverse_cons]
    exact Reps.append (Reps.reverse h2) (Reps.cons h1 Reps.nil)
/-- xs[::-1] -/
def nRev (fx : SM Ar) : SE := fx.bind fun a ρ => match contAr ρ a with
  | some (.lst xs) => some (.ok (.lst xs.reverse), ρ)
  | _ => none
def mExtend : List PV → List PV → Option (PV × List PV)
  | xs, [.lst ys] => if xs.length + ys.length ≤ 16777216 then some (.non, xs ++ ys) else none
  | _, _ => none
theorem ml_extend (hK : X.K = S.K) : MlR X S "list.extend" mExtend := ⟨_, mt_extendS, fun F H l xs as ys z vs ws Q s fl hl r ra e k => by
  unfold mExtend at e
  split at e
  · rename_i ys
    split at e
    · rename_i hz
      cases e
      obtain ⟨v, rfl, hv⟩ := reps1 ra
      obtain ⟨b, zs, rfl, h2, h3⟩ := hv
      exact ⟨l, b, vs, zs, rfl, rfl, hl, by rw [hK]; exact SqL.same s h2, by rw [sizeLine_eq, ← r.length, ← h3.length]; exact hz, k .non _ rfl (Reps.append r h3)⟩
    · cases e
  · cases e⟩
def mInsert : List PV → List PV → Option (PV × List PV)
  | xs, [.int i, y] => if xs.length < 16777216 ∧ 0 ≤ i ∧ i < 1000000000 then some (.non, xs.take i.toNat ++ [y] ++ xs.drop i.toNat) else none
  | _, _ => none
theorem ml_insert : MlR X S "list.insert" mInsert := ⟨_, mt_insert, fun F H l xs as ys z vs ws Q s fl hl r ra e k => by
  unfold mInsert at e
  split at e
  · rename_i i y
    split at e
    · rename_i hz
      cases e
      obtain ⟨v, r', rfl, h1, h2⟩ := ra
      obtain ⟨w, rfl, h3⟩ := reps1 h2
      have h1 : v = .int i := h1
      subst h1
      exact ⟨l, vs, i, w, rfl, rfl, hl, by rw [sizeLine_eq, ← r.length]; exact hz.1, hz.2.1, by have := hz.2.2; omega, k .non _ rfl (Reps.append (Reps.append (Reps.take _ r) (Reps.cons h3 Reps.nil)) (Reps.drop _ r))⟩
    · cases e
  · cases e⟩
theorem Reps.eraseIdx {F : Hp} : ∀ {xs : List PV} {vs : List V} (i : Nat), Reps S F xs vs → Reps S F (xs.eraseIdx i) (vs.eraseIdx i)
  | [], vs, i, h => by
    have h : vs = [] := h
    rw [h]
    exact rfl
  | x :: xs, vs, 0, h => by
    obtain ⟨v, r, rfl, h1, h2⟩ := h
    exact h2
  | x :: xs, vs, i + 1, h => by
    obtain ⟨v, r, rfl, h1, h2⟩ := h
    exact ⟨v, _, rfl, h1, Reps.eraseIdx i h2⟩
def mPopAt : List PV → List PV → Option (PV × List PV)
  | xs, [.int i] => if -1000000000 < i ∧ i < 1000000000 then (match seqIndex? i xs.length with
    | some k => (match xs[k]? with
      | some y => some (y, xs.eraseIdx k)
      | none => none)
    | none => none) else none
  | _, _ => none
def mRemove : List PV → List PV → Option (PV × List PV)
  | xs, [.int k] => (match intsP xs with
    | some ns => if k ∈ ns then some (.non, (ns.eraseIdx (ns.findIdx (· == k))).map .int) else none
    | none => none)
  | _, _ => none
def eMl0 (i : Nat) (op : List PV → Option (PV × List PV)) : SE := fun ρ => match mtL ρ i with
  | some xs => (match op xs with
    | some (z, ys) => some (.ok z, putL ρ i ys)
    | none => none)
  | none => none
def MlR0 (X : Cx) (S : Sg) (id : String) (op : List PV → Option (PV × List PV)) : Prop :=
  ∃ r : V → List V → Hp → VK → Prop, MtR X id r ∧ ∀ (F H : Hp) (l : Addr) (xs ys : List PV) (z : PV) (vs : List V) (Q : VK), Same F H → F l = none → H l = some (.lst vs) → Reps S F xs vs → op xs = some (z, ys) →
    (∀ v vs', Rep S F z v → Reps S F ys vs' → Q v (upd H l (.lst vs'))) → r (.ref l) [] H Q
def mPop (xs : List PV) : Option (PV × List PV) := match xs[xs.length - 1]? with
  | some y => some (y, xs.dropLast)
  | none => none
theorem Reps.dropLast {F : Hp} {xs : List PV} {vs : List V} (h : Reps S F xs vs) : Reps S F xs.dropLast vs.dropLast := by
  rw [List.dropLast_eq_take, List.dropLast_eq_take, h.length]
  exact Reps.take _ h
def mReverse (xs : List PV) : Option (PV × List PV) := some (.non, xs.reverse)
end
end Y


namespace Y
open PySem PySem.Spec L2
open Classical in
/-- as forL, where ok must hold at each turn and at the end -/
noncomputable def forLc (ok : Rh → Prop) (gm : GM) (b : SS) (fg : List Nat) : List PV → SS
  | [] => fun ρ => if ok ρ then some (.nx, ρ) else none
  | x :: xs => fun ρ => if ok ρ then (match gm x ρ with
    | none => none
    | some ρ1 => (match b ρ1 with
      | some (.nx, ρ2) => forLc ok gm b fg xs (wipeR fg ρ2)
      | some (.ct, ρ2) => forLc ok gm b fg xs (wipeR fg ρ2)
      | some (.bk, ρ2) => some (.nx, ρ2)
      | r => r)) else none
open Classical in
noncomputable def lcLc (ok : Rh → Prop) (gm : GM) (tst : SM Bool) (fe : SE) (vs : List Nat) : List PV → List PV → Rh → Option (List PV × Rh)
  | [], acc, ρ => if ok ρ ∧ unAll vs ρ = true then some (acc, ρ) else none
  | x :: xs, acc, ρ => if ok ρ ∧ unAll vs ρ = true then (match gm x ρ with
    | none => none
    | some ρ1 => (match tst ρ1 with
      | some (.ok true, ρ2) => (match fe ρ2 with
        | some (.ok y, ρ3) => if acc.length < 16777216 then lcLc ok gm tst fe vs xs (acc ++ [y]) (wipeR vs ρ3) else none
        | _ => none)
      | some (.ok false, ρ2) => lcLc ok gm tst fe vs xs acc (wipeR vs ρ2)
      | _ => none)) else none
/-- J walks the values xs while ok holds and the slots are as Σ says -/
structure WkG (S : Sg) (φ : Fr) (F0 : Hp) (sg : L2.St → Prop) (ok : Rh → Prop) (xs : List PV) (J : It) : Prop where
  go : ∀ i ρ F σ H, Stt S φ ρ F σ H → Same F0 F → sg σ → ok ρ → i < xs.length → J.go i H
  stop : ∀ i ρ F σ H, Stt S φ ρ F σ H → Same F0 F → sg σ → ok ρ → xs.length ≤ i → J.stop i H
  yld : ∀ i ρ F σ H v H', Stt S φ ρ F σ H → Same F0 F → sg σ → ok ρ → i < xs.length → J.yld i H v H' → ∃ x F', xs[i]? = some x ∧ Gw F H F' H' ∧ Rep S F' x v
theorem Wk.g {S : Sg} {φ : Fr} {F0 : Hp} {sg : L2.St → Prop} {ok : Rh → Prop} {xs : List PV} {J : It} (w : Wk S F0 xs J) : WkG S φ F0 sg ok xs J where
  go := fun i ρ F σ H s m _ _ hi => w.go i H (m.trans s.same) hi
  stop := fun i ρ F σ H s m _ _ hi => w.stop i H (m.trans s.same) hi
  yld := fun i ρ F σ H v H' s m _ _ hi y => w.yld i F H v H' m s.same hi y
/-- a list that may be written, at p -/
theorem wkg_list {S : Sg} {φ : Fr} {F0 : Hp} {sg : L2.St → Prop} {ok : Rh → Prop} {xs : List PV} {p : Addr} (h : ∀ ρ F σ H, Stt S φ ρ F σ H → Same F0 F → sg σ → ok ρ → ∃ vs, H p = some (.lst vs) ∧ Reps S F xs vs) : WkG S φ F0 sg ok xs (Itl S.K p) where
  go := fun i ρ F σ H s m a b hi => by
    obtain ⟨vs, h1, h2⟩ := h ρ F σ H s m a b
    have hv : i < vs.length := by rw [← h2.length]; exact hi
    exact ⟨vs, vs[i], SqL.of h1, by simp [hv]⟩
  stop := fun i ρ F σ H s m a b hi => by
    obtain ⟨vs, h1, h2⟩ := h ρ F σ H s m a b
    exact ⟨vs, SqL.of h1, by rw [← h2.length]; exact hi⟩
  yld := fun i ρ F σ H v H' s m a b hi ⟨e, q⟩ => by
    obtain ⟨vs, h1, h2⟩ := h ρ F σ H s m a b
    subst e
    have hv := q vs (SqL.of h1)
    obtain ⟨x, h3, h4⟩ := h2.getV hv
    exact ⟨x, F, h3, Gw.rfl' s.same, h4⟩
section
variable {X : Cx} {S : Sg} {φ : Fr} {W : WX} {f : SS} {sts : List Stmt} {pos : Pos}
theorem for_wkG {is : List Nat} {F0 : Hp} {ok : Rh → Prop} {xs : List PV} {J : It} (wk : WkG S φ F0 (fun _ => True) ok xs J) {gm : GM} {fg : List Nat} {D : Ends} {σ : L2.St} {H F : Hp} {ρ : Rh} {r : Fl × Rh} (s : Stt S φ ρ F σ H) (m : Same F0 F) (e : forLc ok gm f fg xs ρ = some r) (o : OS S φ W F D r) :
    ∃ W' : Nat → Nat → L2.St → Hp → Prop, (∃ m, W' 0 m σ H) ∧ ∀ i m σ H, W' i m σ H →
      (J.stop i H ∧ D.nx σ H) ∨ (J.go i H ∧ ∃ N : L2.St → Hp → Prop, (∀ σ' H', N σ' H' → ∃ m', m' < m ∧ W' (i + 1) m' σ' H') ∧ ∀ x H', J.yld i H x H' → gJ S φ gm is x σ H' fun σ2 H2 => tS S φ W f { D with nx := N, ct := N, bk := D.nx } σ2 H2) := by
  let P : Nat → L2.St → Hp → Prop := fun i σ H => i ≤ xs.length ∧ ∃ ρ F r, Stt S φ ρ F σ H ∧ Same F0 F ∧ forLc ok gm f fg (xs.drop i) ρ = some r ∧ OS S φ W F D r
  refine ⟨fun i m σ H => m = xs.length - i ∧ P i σ H, ⟨xs.length, by simp, Nat.zero_le _, ρ, F, r, s, m, e, o⟩, ?_⟩
  rintro i m σ H ⟨rfl, hi, ρ, F, r, s, m, e, o⟩
  have hok : ok ρ := by
    cases q : xs.drop i with
    | nil => rw [q] at e; unfold forLc at e; split at e <;> first | assumption | cases e
    | cons y ys => rw [q] at e; unfold forLc at e; split at e <;> first | assumption | cases e
  by_cases hlt : i < xs.length
  · refine .inr ⟨wk.go i ρ F σ H s m True.intro hok hlt, P (i + 1), fun σ' H' h => ⟨xs.length - (i + 1), by omega, rfl, h⟩, fun v H' y => ?_⟩
    obtain ⟨x, F', hx, gw, rx⟩ := wk.yld i ρ F σ H v H' s m True.intro hok hlt y
    have ex : xs.drop i = x :: xs.drop (i + 1) := by
      obtain ⟨h1, h2⟩ := List.getElem?_eq_some_iff.mp hx
      rw [List.drop_eq_getElem_cons h1, h2]
    rw [ex] at e
    unfold forLc at e
    rw [if_pos hok] at e
    cases q : gm x ρ with
    | none => rw [q] at e; cases e
    | some ρ1 =>
      rw [q] at e
      refine ⟨x, ρ, F', ρ1, s.grow gw, rx, q, fun σ1 s1 _ => ?_⟩
      dsimp only at e
      cases q2 : f ρ1 with
      | none => rw [q2] at e; cases e
      | some z =>
        obtain ⟨k, ρ2⟩ := z
        rw [q2] at e
        refine ⟨ρ1, F', _, s1, q2, ?_⟩
        cases k with
        | nx => exact fun F2 σ2 H2 s2 m2 => ⟨hlt, _, F2, r, Stt.wipeR fg s2, (m.trans gw.f).trans m2, e, o.up (gw.f.trans m2)⟩
        | ct => exact fun F2 σ2 H2 s2 m2 => ⟨hlt, _, F2, r, Stt.wipeR fg s2, (m.trans gw.f).trans m2, e, o.up (gw.f.trans m2)⟩
        | bk => cases e; exact fun F2 σ2 H2 s2 m2 => o F2 σ2 H2 s2 (gw.f.trans m2)
        | rt x => cases e; exact fun v F2 σ2 H2 s2 m2 => o v F2 σ2 H2 s2 (gw.f.trans m2)
        | ex c => cases e; exact fun F2 σ2 H2 s2 m2 => o F2 σ2 H2 s2 (gw.f.trans m2)
  · have ei : i = xs.length := by omega
    subst ei
    rw [List.drop_length] at e
    unfold forLc at e
    rw [if_pos hok] at e
    cases e
    exact .inl ⟨wk.stop _ ρ F σ H s m True.intro hok (Nat.le_refl _), o F σ H s (Same.refl _)⟩
/-- slot k holds the list xs as a parameter that may be written -/
def ioIs (k : Nat) (xs : List PV) (ρ : Rh) : Prop := ρ[k]? = some (.io (.lst xs))
noncomputable def sForH (k : Nat) (gm : GM) (b : SS) (fg : List Nat) : SS := fun ρ => match ρ[k]? with
  | some (.pu (.lst xs)) => forL gm b fg xs (wipeR fg ρ)
  | some (.ow (.lst xs)) => forL gm b fg xs (wipeR fg (ρ.set k (.pu (.lst xs))))
  | some (.io (.lst xs)) => forLc (ioIs k xs) gm b fg xs (wipeR fg ρ)
  | _ => none
theorem js_forH (k : Nat) (fg : List Nat) {x : Str} {pos' : Pos} {tg : Expr} {gm : GM} {is : List Nat} (hK : X.K = S.K) (hp : PassesOwn (model X.prog X.w) X.A X.env X.xe) (hc : X.calm = true) (hg : JG X S φ tg gm is) (hb : JSs X S φ W sts f)
    (hN : X.N[k]? = some x := by rfl) (hv : Vis X.env.scope x := by first | exact Or.inl rfl | exact Or.inr (Or.inl rfl) | exact Or.inr (Or.inr rfl)) (hd : (x == ("__debug__" : Str)) = false := by decide)
    (hcd : (x == ("__classdict__" : Str)) = false := by decide)
    (hs : ∀ y, foldedSetIterable (.Name x pos') X.env y = pure y := by intro _; rfl) : JS X S φ W (.For tg (.Name x pos') sts [] pos) (sForH k gm f fg) := by
  have pv := pe_var (pos := pos') hN hv hd hcd
  have hi : PI X tg (.Name x pos') (fun σ H R => (∃ p, σ[k]? = some (some (.ref p)) ∧ (∃ vs, SqL X.K H p vs) ∧ R (Itl X.K p) H)) := L2.PI.imp (pi_list pv) fun σ H R ⟨p, h1, h2, h3⟩ => ⟨_, h1, p, rfl, h2, h3⟩
  -- a name that holds a new object freezes it ahead of the loop
  have hi2 : PI X tg (.Name x pos') (fun σ H R => ∃ ρ F, Stt S φ ρ F σ H ∧ ((∃ xs, ρ[k]? = some (.pu (.lst xs)) ∧ ∀ J, Wk S F xs J → R J H) ∨ (∃ xs, ρ[k]? = some (.ow (.lst xs)) ∧ ∀ F' H', Stt S φ (ρ.set k (.pu (.lst xs))) F' σ H' → Same F F' → ∀ J, Wk S F' xs J → R J H') ∨
      (∃ xs, ρ[k]? = some (.io (.lst xs)) ∧ ∀ J, WkG S φ F (fun _ => True) (ioIs k xs) xs J → R J H))) := by
    refine ⟨fun pins s0 σ H R I h => ?_⟩
    obtain ⟨ρ, F, s, h⟩ := h
    rcases h with ⟨xs, q, h⟩ | ⟨xs, q, h⟩ | ⟨xs, q, h⟩
    · obtain ⟨v, h1, h2⟩ := s.slot k _ q
      obtain ⟨p, vs, rfl, h3, h4⟩ := h2
      exact hi.run pins s0 σ H R I ⟨p, h1, ⟨vs, hK.symm ▸ SqL.same s.same h3⟩, by rw [hK]; exact h _ (wk_list h3 h4)⟩
    · obtain ⟨p, h1, h2, h3, h4⟩ := s.slot k _ q
      obtain ⟨u, hu⟩ := h4.there
      obtain ⟨u', z, I2⟩ := I.fzn h4 hu
      obtain ⟨r1, r2, r3⟩ := s.freeze q h1 hu z
      obtain ⟨p', vs, e', h5, h6⟩ := r1
      cases e'
      exact hi.run pins s0 σ _ R I2 ⟨p, h1, ⟨vs, hK.symm ▸ SqL.same r3.same h5⟩, by rw [hK]; exact h _ _ r3 r2 _ (wk_list h5 h6)⟩
    · obtain ⟨p, h1, h2, h3, h4⟩ := s.slot k _ q
      have h4' := h4
      obtain ⟨vs, h5, h6⟩ := h4'
      have hw : WkG S φ F (fun _ => True) (ioIs k xs) xs (Itl S.K p) := wkg_list fun ρ' F' σ' H' s' m' _ hok => by
        have hok : ρ'[k]? = some (.io (.lst xs)) := hok
        obtain ⟨p', g1, g2, g3, g4⟩ := s'.slot k _ hok
        rw [h3] at g3
        cases g3
        exact g4
      exact hi.run pins s0 σ H R I ⟨p, h1, ⟨vs, SqL.of h5⟩, by rw [hK]; exact h _ hw⟩
  refine (ps_for hp hc hi2 hg hb hs).imp fun D σ H ⟨ρ, F, r, s, e1, o⟩ => ?_
  unfold sForH at e1
  split at e1
  · rename_i xs q
    exact ⟨ρ, F, s, .inl ⟨xs, q, fun J wk => for_wk wk (Stt.wipeR fg s) (Same.refl _) e1 o⟩⟩
  · rename_i xs q
    exact ⟨ρ, F, s, .inr (.inl ⟨xs, q, fun F' H' s' m' J wk => for_wk wk (Stt.wipeR fg s') (Same.refl _) e1 (o.up m')⟩)⟩
  · rename_i xs q
    exact ⟨ρ, F, s, .inr (.inr ⟨xs, q, fun J wk => for_wkG wk (Stt.wipeR fg s) (Same.refl _) e1 o⟩)⟩
  · cases e1
/-- what a name that is walked holds: the items, and whether the list may be written -/
def itH (k : Nat) : SM (List PV × Bool) := fun ρ => match ρ[k]? with
  | some (.pu (.lst xs)) => some (.ok (xs, false), ρ)
  | some (.ow (.lst xs)) => some (.ok (xs, true), ρ)
  | some (.io (.lst xs)) => some (.ok (xs, true), ρ)
  | _ => none
def okH (k : Nat) (t : List PV × Bool) (ρ : Rh) : Prop := t.2 = true → mtL ρ k = some t.1
noncomputable def lcM {T : Type} (it : SM T) (vals : T → List PV) (okf : T → Rh → Prop) (gm : GM) (tst : SM Bool) (fe : SE) (vs : List Nat) : SE := it.bind fun t => fun ρ => match lcLc (okf t) gm tst fe vs (vals t) [] (wipeR vs ρ) with
  | some (acc, ρ') => some (.ok (.lst acc), ρ')
  | none => none
abbrev wiG (S : Sg) (φ : Fr) (W : WX) {T : Type} (it : SM T) (vals : T → List PV) (okf : T → Rh → Prop) (sgf : L2.St → L2.St → Prop) : TI := fun σ H R => ∃ ρ F r, Stt S φ ρ F σ H ∧ it ρ = some r ∧ OG S φ W F σ (fun t ρ' F' H' => ∀ J, WkG S φ F' (sgf σ) (okf t) (vals t) J → R J H') r
/-- the reading of a comprehension -/
theorem lc_red {T : Type} {it : SM T} {vals : T → List PV} {okf : T → Rh → Prop} {sgf : L2.St → L2.St → Prop} {gm : GM} {is vs : List Nat} {tst : SM Bool} {fe : SE} (hsg : ∀ σ, sgf σ (wipe σ vs)) (his : ∀ i ∈ is, i ∈ vs) {σ : L2.St} {H : Hp} {Q : VK}
    (h : tN S φ W (lcM it vals okf gm tst fe vs) σ H Q) : tLc (wiG S φ W it vals okf sgf) (xG S gm is) (xT S tst) (xJ S fe) vs σ H Q := by
  obtain ⟨ρ, F, r, s, e1, o⟩ := h
  obtain ⟨r1, e2, o2⟩ := OG.seq e1 o
  refine ⟨ρ, F, r1, s, e2, o2.imp fun t ρ1 F1 H1 s1 m1 ⟨r2, e3, o3⟩ J wk => ?_⟩
  dsimp only at e3
  generalize vals t = xs at wk e3
  generalize okf t = okp at wk e3
  intro D hD
  cases q0 : lcLc okp gm tst fe vs xs [] (wipeR vs ρ1) with
  | none => rw [q0] at e3; cases e3
  | some z0 =>
  rw [q0] at e3
  cases e3
  obtain ⟨accE, ρE⟩ := z0
  have o3 : ∀ F' H', Stt S φ ρE F' σ H' → Same F1 F' → ∀ p, Nw φ ρE F' σ p → Top S F' H' p (.lst accE) → Q (.ref p) H' := o3
  obtain ⟨sD, nwD⟩ := s1.newOwn (o := .lst []) hD
  have noD : D ∉ φ.own := fun z => s1.k3 D z hD
  have fD : φ.F D = none := by
    cases q : φ.F D with
    | none => rfl
    | some u => have := s1.same _ _ (s1.fF _ _ q); rw [hD] at this; cases this
  -- σ and the wiped σ
  have cg : ∀ {ρ : Rh} {F' H' : Hp}, unAll vs ρ = true → Stt S φ ρ F' (wipe σ vs) H' → Stt S φ ρ F' σ H' := fun {ρ F' H'} u st => st.congr (by have := st.len; rw [wipe_length] at this; exact this) fun i t a b => (wipe_ne (unAll_ne u a b)).symm
  let I : Nat → Hp → Prop := fun i H => i ≤ xs.length ∧ ∃ ρ F acc av, Stt S φ ρ F (wipe σ vs) H ∧ Same F1 F ∧ Nw φ ρ F (wipe σ vs) D ∧ H D = some (.lst av) ∧ Reps S F acc av ∧ lcLc okp gm tst fe vs (xs.drop i) acc ρ = some (accE, ρE)
  have hun : ∀ {ys acc : List PV} {ρ : Rh} {z : List PV × Rh}, lcLc okp gm tst fe vs ys acc ρ = some z → okp ρ ∧ unAll vs ρ = true := fun {ys acc ρ z} h => by
    cases ys with
    | nil => unfold lcLc at h; split at h <;> first | assumption | cases h
    | cons y ys => unfold lcLc at h; split at h <;> first | assumption | cases h
  refine ⟨fun i m H => m = xs.length - i ∧ I i H, ⟨xs.length, by simp, Nat.zero_le _, wipeR vs ρ1, F1, [], [], ?_, Same.refl _, ?_, upd_same, rfl, q0⟩, ?_⟩
  · exact (Stt.wipeR vs sD).congr (by rw [wipe_length]; exact (Stt.wipeR vs sD).len) fun i t a b => wipe_ne (unAll_ne (hun q0).2 a b)
  · have nw2 : Nw φ (wipeR vs ρ1) F1 σ D := (Stt.wipeR vs s1).newOwn (o := .lst []) hD |>.2
    exact nw2.congr fun i t a b => wipe_ne (unAll_ne (hun q0).2 a b)
  rintro i m H ⟨rfl, hi2, ρ, F, acc, av, st, sm, nw, hDv, ra, el⟩
  by_cases hlt : i < xs.length
  · refine .inr ⟨wk.go i ρ F _ H st sm (hsg σ) (hun el).1 hlt, I (i + 1), fun H' h => ⟨xs.length - (i + 1), by omega, rfl, h⟩, fun v H' y => ?_⟩
    obtain ⟨x, F', hx, gw, rx⟩ := wk.yld i ρ F _ H v H' st sm (hsg σ) (hun el).1 hlt y
    have ex : xs.drop i = x :: xs.drop (i + 1) := by
      obtain ⟨h1, h2⟩ := List.getElem?_eq_some_iff.mp hx
      rw [List.drop_eq_getElem_cons h1, h2]
    rw [ex] at el
    have hu := hun el
    unfold lcLc at el
    rw [if_pos hu] at el
    have st2 := st.grow gw
    have hD2 : H' D = some (.lst av) := gw.h _ _ hDv
    have nw2 : Nw φ ρ F' (wipe σ vs) D := ⟨gw.o D (by rw [hDv]; simp) nw.f, nw.h, nw.no⟩
    cases q1 : gm x ρ with
    | none => rw [q1] at el; cases el
    | some ρ1' =>
    rw [q1] at el
    dsimp only at el
    refine ⟨φ.plus D (.lst av), x, ρ, F', ρ1', st2.into nw2 hD2, rx, q1, fun σ1 st3 ch => ⟨wipe_chg his ch, ?_⟩⟩
    have hw := wipe_chg his ch
    cases q2 : tst ρ1' with
    | none => rw [q2] at el; cases el
    | some z2 =>
    obtain ⟨b, ρ2⟩ := z2
    rw [q2] at el
    cases b with
    | ex c => cases el
    | ok b =>
    -- behind a turn
    have turn : ∀ {ρ4 : Rh} {F4 H4 : Hp} {acc' : List PV} {av' : List V}, Stt S (φ.plus D (.lst av)) ρ4 F4 σ1 H4 → Same F' F4 → Reps S F4 acc' av' → lcLc okp gm tst fe vs (xs.drop (i + 1)) acc' (wipeR vs ρ4) = some (accE, ρE) → H4 D = some (.lst av) ∧ I (i + 1) (upd H4 D (.lst av')) := fun {ρ4 F4 H4 acc' av'} st4 m4 ra4 el4 => by
      have out := Stt.wipeR vs (st4.outof nw.h)
      obtain ⟨k1, k2⟩ := Stt.kept fD nw.h noD st4
      have k3 : Nw φ (wipeR vs ρ4) F4 σ1 D := ((Stt.wipeR vs st4).kept fD nw.h noD).2
      have cg2 : ∀ (i : Nat) (t : Sl), (wipeR vs ρ4)[i]? = some t → t ≠ .un → (wipe σ vs)[i]? = σ1[i]? := fun i t a b => by
        rw [← hw]
        exact wipe_ne (unAll_ne (hun el4).2 a b)
      have out2 : Stt S φ (wipeR vs ρ4) F4 (wipe σ vs) H4 := out.congr (by have := out.len; rw [← hw, wipe_length]; exact this) cg2
      have k4 := k3.congr cg2
      exact ⟨k1, hlt, _, F4, acc', av', out2.poke k4, (sm.trans gw.f).trans m4, k4, upd_same, ra4, el4⟩
    refine ⟨φ.plus D (.lst av), ρ1', F', _, st3, q2, fun F3 H3 st4 m3 => ?_⟩
    cases b with
    | false =>
      rw [if_neg (by simp)]
      obtain ⟨k1, k2⟩ := turn st4 m3 (Reps.mono (gw.f.trans m3) _ _ ra) el
      rw [upd_self k1] at k2
      exact k2
    | true =>
      rw [if_pos rfl]
      dsimp only at el
      cases q3 : fe ρ2 with
      | none => rw [q3] at el; cases el
      | some z3 =>
      obtain ⟨b3, ρ3⟩ := z3
      rw [q3] at el
      cases b3 with
      | ex c => cases el
      | ok yv =>
      dsimp only at el
      split at el
      case isFalse => cases el
      case isTrue hlen =>
      refine ⟨φ.plus D (.lst av), ρ2, F3, _, st4, q3, fun F4 H4 st5 m5 w rw_ => ?_⟩
      obtain ⟨k1, k2⟩ := turn st5 (m3.trans m5) (Reps.append (Reps.mono ((gw.f.trans m3).trans m5) _ _ ra) (Reps.cons rw_ Reps.nil)) el
      exact ⟨av, k1, by rw [← ra.length]; exact Nat.lt_of_lt_of_le hlen (by decide), k2⟩
  · have ei : i = xs.length := by omega
    subst ei
    rw [List.drop_length] at el
    have hu := hun el
    unfold lcLc at el
    rw [if_pos hu] at el
    cases el
    refine .inl ⟨wk.stop _ _ F _ H st sm (hsg σ) hu.1 (Nat.le_refl _), ?_⟩
    exact o3 F H (cg hu.2 st) sm D (nw.congr fun i t a b => (wipe_ne (unAll_ne hu.2 a b)).symm) ⟨av, hDv, ra⟩


section
variable {T : Type} {it : SM T} {vals : T → List PV} {okf : T → Rh → Prop} {sgf : L2.St → L2.St → Prop} {elt tg iter : Expr} {ifs : List Expr} {scope : Scope} {own : List (Str × Nat)} {gm : GM} {is : List Nat} {tst : SM Bool} {fe : SE}
theorem jn_lcG (hc : X.calm = true) (hN : X.N.Nodup)
    (hi : PI X tg iter (wiG S φ W it vals okf sgf)) (hsg : ∀ σ, sgf σ (wipe σ (own.map (·.2)))) (ok : BlkOk X.N X.env.scope scope own)
    (hg : ∀ (φ' : Fr) (s : Shared) (H : Hp) (C : Addr) (cl : List (Str × Addr)) (fp : List Addr), JG (X.blk s H scope (compEnvC scope cl C X.env) fp) S φ' tg gm is)
    (ht : ∀ (s : Shared) (H : Hp) (C : Addr) (cl : List (Str × Addr)) (fp : List Addr), PTs (X.blk s H scope (compEnvC scope cl C X.env) fp) ifs (xT S tst))
    (he : ∀ (φ' : Fr) (s : Shared) (H : Hp) (C : Addr) (cl : List (Str × Addr)) (fp : List Addr), JE (X.blk s H scope (compEnvC scope cl C X.env) fp) S φ' W0 elt fe)
    (his : ∀ i ∈ is, i ∈ own.map (·.2)) (hs : ∀ x, foldedSetIterable iter X.env x = pure x := by intro _; rfl) :
    JN X S φ W (.ListComp elt [⟨tg, iter, ifs, 0⟩] scope pos) (lcM it vals okf gm tst fe (own.map (·.2))) :=
  (pe_lc hc hN hi ok (fun s H C cl fp => PG.all fun φ' => hg φ' s H C cl fp) ht (fun s H C cl fp => PE.all fun φ' => he φ' s H C cl fp) hs).imp fun σ H Q h => lc_red hsg his h
end
/-- over a list that a name holds -/
theorem pi_h (k : Nat) {x : Str} {pos' : Pos} {tg : Expr} (hK : X.K = S.K)
    (hNk : X.N[k]? = some x := by rfl) (hv : Vis X.env.scope x := by first | exact Or.inl rfl | exact Or.inr (Or.inl rfl) | exact Or.inr (Or.inr rfl)) (hd : (x == ("__debug__" : Str)) = false := by decide)
    (hcd : (x == ("__classdict__" : Str)) = false := by decide) : PI X tg (.Name x pos') (wiG S φ W (itH k) Prod.fst (okH k) fun σ σ' => σ'[k]? = σ[k]?) := by
  have pv := pe_var (pos := pos') hNk hv hd hcd
  refine L2.PI.imp (pi_list pv) fun σ H R ⟨ρ, F, r, s, e1, o⟩ => ?_
  unfold itH at e1
  split at e1
  · rename_i xs q
    cases e1
    obtain ⟨v, h1, h2⟩ := s.slot k _ q
    obtain ⟨p, vs, rfl, h3, h4⟩ := h2
    refine ⟨_, h1, p, rfl, ⟨vs, hK.symm ▸ SqL.same s.same h3⟩, ?_⟩
    rw [hK]
    exact o F H s (Same.refl _) _ (wk_list h3 h4).g
  · rename_i xs q
    cases e1
    obtain ⟨p, h1, h2, h3, h4⟩ := s.slot k _ q
    have h4' := h4
    obtain ⟨vs, h5, h6⟩ := h4'
    refine ⟨_, h1, p, rfl, ⟨vs, SqL.of h5⟩, ?_⟩
    rw [hK]
    refine o F H s (Same.refl _) _ (wkg_list fun ρ' F' σ' H' s' m' hsg hok => ?_)
    obtain ⟨t, p', vs', g1, g2, g3, g4, g5, g6⟩ := s'.mtL (hok rfl)
    rw [hsg, h1] at g3
    cases g3
    exact ⟨vs', g5, g6⟩
  · rename_i xs q
    cases e1
    obtain ⟨p, h1, h2, h3, h4⟩ := s.slot k _ q
    have h4' := h4
    obtain ⟨vs, h5, h6⟩ := h4'
    refine ⟨_, h1, p, rfl, ⟨vs, SqL.of h5⟩, ?_⟩
    rw [hK]
    refine o F H s (Same.refl _) _ (wkg_list fun ρ' F' σ' H' s' m' hsg hok => ?_)
    obtain ⟨t, p', vs', g1, g2, g3, g4, g5, g6⟩ := s'.mtL (hok rfl)
    rw [hsg, h1] at g3
    cases g3
    exact ⟨vs', g5, g6⟩
  · cases e1
/-- over what is frozen -/
theorem pi_f {tg iter : Expr} {it : SM (List PV)} (h : JI X S φ W tg iter it) : PI X tg iter (wiG S φ W it id (fun _ _ => True) fun _ _ => True) := L2.PI.imp h fun σ H R ⟨ρ, F, r, s, e1, o⟩ => ⟨ρ, F, r, s, e1, o.imp fun xs ρ' F' H' s' m' q J wk => q J wk.g⟩
end
end Y


namespace Y
open PySem PySem.Spec L2
section
variable {X : Cx} {S : Sg} {φ : Fr} {W : WX} {e : Expr} {fr : SM Sl} {pos : Pos}
/-- name = f(..) -/
def gS (i : Nat) (sl : Sl) : SS := fun ρ => match ρ[i]? with
  | some (.io _) => none
  | some _ => (match sl with
    | .pu x => some (.nx, ρ.set i (.pu x))
    | .ow x => some (.nx, ρ.set i (.ow x))
    | _ => none)
  | none => none
def sSetR (i : Nat) (fr : SM Sl) : SS := sE fr (gS i)
theorem js_setR (i : Nat) {x : Str} {pos' : Pos} (hN : X.N.Nodup) (he : JR X S φ W e fr) (hi : X.N[i]? = some x := by rfl) (hx : Loc X.env.scope x := by first | exact Or.inl rfl | exact Or.inr rfl) (hs : swapsWith e (some (.Name x pos')) pos.line X.env = pure false := by rfl)
    (hf : X.fn x = true ∨ X.env.scope.names.lookup x = some .local := by first | exact .inl rfl | exact .inr rfl | assumption) : JS X S φ W (.Assign [.Name x pos'] e pos) (sSetR i fr) := (ps_set hN hi hx he hs hf).imp fun D σ H ⟨ρ, F, r, s, e1, o⟩ => by
  obtain ⟨r1, e2, o2⟩ := OS.seqE (σ := σ) e1 o
  refine ⟨ρ, F, r1, s, e2, o2.imp fun sl ρ1 F1 H1 s1 m1 ⟨r2, e3, o3⟩ v hv => ?_⟩
  unfold gS at e3
  split at e3
  · cases e3
  · cases sl with
    | pu x =>
      cases e3
      exact o3 F1 _ H1 (s1.setPu hv) (Same.refl _)
    | ow x =>
      cases e3
      obtain ⟨p, rfl, nw, tp⟩ := hv
      exact o3 F1 _ H1 (s1.setOw nw.f nw.h tp nw.no) (Same.refl _)
    | _ => cases e3
  · cases e3
/-- return f(..) -/
def rS (sl : Sl) : SS := fun ρ => match sl with
  | .pu x => some (.rt (.pu x), ρ)
  | .ow x => some (.rt (.ow x), ρ)
  | .io x => some (.rt (.io x), ρ)
  | _ => none
def sRetR (fr : SM Sl) : SS := sE fr rS
/-- return name: a new object as it is, anything else as a value -/
def sRetX (i : Nat) : SS := fun ρ => match ρ[i]? with
  | some (.ow x) => some (.rt (.ow x), ρ.set i .un)
  | some (.pu x) => some (.rt (.pu x), ρ)
  | _ => none
theorem js_retX (i : Nat) {x : Str} {pos' : Pos} (hN : X.N[i]? = some x := by rfl) (hv : Vis X.env.scope x := by first | exact Or.inl rfl | exact Or.inr (Or.inl rfl) | exact Or.inr (Or.inr rfl)) (hd : (x == ("__debug__" : Str)) = false := by decide)
    (hcd : (x == ("__classdict__" : Str)) = false := by decide) : JS X S φ W (.Return (some (.Name x pos')) pos) (sRetX i) := (ps_ret (pe_var hN hv hd hcd)).imp fun D σ H ⟨ρ, F, r, s, e1, o⟩ => by
  unfold sRetX at e1
  split at e1
  · rename_i y q
    cases e1
    obtain ⟨p, h1, h2, h3, h4⟩ := s.slot i _ q
    have lt : i < ρ.length := (List.getElem?_eq_some_iff.mp q).1
    refine ⟨_, h1, o _ F σ H s.forget (Same.refl _) ⟨p, rfl, ⟨h2, h3, fun j t z a b c => ?_⟩, h4⟩⟩
    by_cases w : i = j
    · subst w
      rw [List.getElem?_set_self lt] at a
      cases a
      cases b
    · rw [List.getElem?_set_ne w] at a
      exact w (s.sep i j _ t y z p q a (.ow y) b h1 c)
  · rename_i y q
    cases e1
    obtain ⟨v, h1, h2⟩ := s.slot i _ q
    exact ⟨v, h1, o v F σ H s (Same.refl _) h2⟩
  · cases e1
end
end Y


namespace Y
open PySem PySem.Spec L2
section
variable {α β : Type} {ρ : Rh} {x y z : PV} {c : Cid} {i j k : Nat} {xs : List PV}
def gsK (i : Nat) (sl : Sl) (ρ : Rh) (s : Option Sl) : Option (Fl × Rh) := match s with
  | some (.io _) => none
  | some _ => (match sl with
    | .pu x => some (.nx, ρ.set i (.pu x))
    | .ow x => some (.nx, ρ.set i (.ow x))
    | _ => none)
  | none => none
@[simp] theorem gS_ap {sl : Sl} : gS i sl ρ = gsK i sl ρ ρ[i]? := by
  unfold gS gsK
  rfl
@[simp] theorem gsK_1 : gsK i (.pu x) ρ (some (.pu y)) = some (.nx, ρ.set i (.pu x)) := rfl
@[simp] theorem gsK_2 : gsK i (.pu x) ρ (some (.ow y)) = some (.nx, ρ.set i (.pu x)) := rfl
@[simp] theorem gsK_3 : gsK i (.pu x) ρ (some .un) = some (.nx, ρ.set i (.pu x)) := rfl
@[simp] theorem gsK_4 : gsK i (.ow x) ρ (some (.pu y)) = some (.nx, ρ.set i (.ow x)) := rfl
@[simp] theorem gsK_5 : gsK i (.ow x) ρ (some (.ow y)) = some (.nx, ρ.set i (.ow x)) := rfl
@[simp] theorem gsK_6 : gsK i (.ow x) ρ (some .un) = some (.nx, ρ.set i (.ow x)) := rfl
@[simp] theorem sSetR_ap (f : SM Sl) : sSetR i f ρ = eK (f ρ) (gS i) := by
  unfold sSetR
  rw [sE_ap]
@[simp] theorem rS_pu : rS (.pu x) ρ = some (.rt (.pu x), ρ) := rfl
@[simp] theorem rS_ow : rS (.ow x) ρ = some (.rt (.ow x), ρ) := rfl
@[simp] theorem sRetR_ap (f : SM Sl) : sRetR f ρ = eK (f ρ) rS := by
  unfold sRetR
  rw [sE_ap]
def rxK (i : Nat) (s : Option Sl) (ρ : Rh) : Option (Fl × Rh) := match s with
  | some (.ow x) => some (.rt (.ow x), ρ.set i .un)
  | some (.pu x) => some (.rt (.pu x), ρ)
  | _ => none
@[simp] theorem rxK_ow : rxK i (some (.ow x)) ρ = some (.rt (.ow x), ρ.set i .un) := rfl
@[simp] theorem rxK_pu : rxK i (some (.pu x)) ρ = some (.rt (.pu x), ρ) := rfl
@[simp] theorem sRetX_ap : sRetX i ρ = rxK i ρ[i]? ρ := by
  unfold sRetX rxK
  split <;> simp_all
def ahK (i : Nat) (s : Option Sl) (ρ : Rh) : Option (Ou Ar × Rh) := match s with
  | some (.pu x) => some (.ok (.pv x), ρ)
  | some (.ow _) => some (.ok (.own i), ρ)
  | some (.io _) => some (.ok (.own i), ρ)
  | _ => none
@[simp] theorem ahK_pu : ahK i (some (.pu x)) ρ = some (.ok (.pv x), ρ) := rfl
@[simp] theorem ahK_ow : ahK i (some (.ow x)) ρ = some (.ok (.own i), ρ) := rfl
@[simp] theorem ahK_io : ahK i (some (.io x)) ρ = some (.ok (.own i), ρ) := rfl
@[simp] theorem aH_ap : aH i ρ = ahK i ρ[i]? ρ := by
  unfold aH ahK
  split <;> simp_all
@[simp] theorem conts_nil : conts ρ [] = some [] := rfl
@[simp] theorem conts_cons {a : Ar} {as : List Ar} : conts ρ (a :: as) = (contAr ρ a).bind fun x => (conts ρ as).map fun xs => x :: xs := by
  rw [conts]
  cases contAr ρ a with
  | none => rfl
  | some x => cases conts ρ as <;> rfl
@[simp] theorem atEnd_ap {f : List PV → Option α} {as : List Ar} : atEnd f as ρ = opM ((conts ρ as).bind f) ρ := by
  unfold atEnd
  cases conts ρ as with
  | none => rfl
  | some xs =>
    show (match f xs with
      | some z => some (Ou.ok z, ρ)
      | none => none) = opM (f xs) ρ
    cases f xs <;> rfl
@[simp] theorem on2_ap {op : PV → PV → Option α} : on2 op [x, y] = op x y := rfl
@[simp] theorem eOpH_ap (op : PV → PV → Option PV) (fa fb : SM Ar) : eOpH op fa fb ρ = bK (fa ρ) fun a => SM.bind fb fun b => atEnd (on2 op) [a, b] := by
  unfold eOpH
  rw [bind_ap]
@[simp] theorem nOpH_ap (op : PV → PV → Option (List PV)) (fa fb : SM Ar) : nOpH op fa fb ρ = bK (fa ρ) fun a => SM.bind fb fun b => atEnd (fun xs => (on2 op xs).map .lst) [a, b] := by
  unfold nOpH
  rw [bind_ap]
@[simp] theorem eBfH_ap (op : List PV → Option PV) (fa : SM (List Ar)) : eBfH op fa ρ = bK (fa ρ) (atEnd op) := by
  unfold eBfH
  rw [bind_ap]
@[simp] theorem nBfH_ap (op : List PV → Option (List PV)) (fa : SM (List Ar)) : nBfH op fa ρ = bK (fa ρ) (atEnd fun xs => (op xs).map .lst) := by
  unfold nBfH
  rw [bind_ap]
@[simp] theorem bListO_l : bListO [.lst xs] = some xs := rfl
@[simp] theorem bListO_t : bListO [.tup xs] = some xs := rfl
@[simp] theorem bSum_i {ns : List Int} : bSum [.lst (ns.map .int)] = some (.int ns.sum) := by
  show (intsP (ns.map PV.int)).map (fun ns => PV.int ns.sum) = _
  rw [ints_of]
  rfl
@[simp] theorem bSorted_i {ns : List Int} : bSorted [.lst (ns.map .int)] = some ((srt ns).map .int) := by
  show (intsP (ns.map PV.int)).map (fun ns => (srt ns).map PV.int) = _
  rw [ints_of]
  rfl
@[simp] theorem bMaxL_i {ns : List Int} : bMaxL [.lst (ns.map .int)] = (mxI ns).map .int := by
  show (intsP (ns.map PV.int)).bind (fun ns => (mxI ns).map PV.int) = _
  rw [ints_of]
  rfl
@[simp] theorem bMinL_i {ns : List Int} : bMinL [.lst (ns.map .int)] = (mnI ns).map .int := by
  show (intsP (ns.map PV.int)).bind (fun ns => (mnI ns).map PV.int) = _
  rw [ints_of]
  rfl
@[simp] theorem oCat_l {ys : List PV} : oCat (.lst xs) (.lst ys) = if xs.length + ys.length ≤ 16777216 then some (xs ++ ys) else none := rfl
def repK (x y : PV) : SE := fun ρ => match x, y with
  | .lst xs, .int k => if k < 1000000 ∧ -1000000 < k ∧ xs.length * k.toNat ≤ 16777216 then some (.ok (.lst (List.replicate k.toNat xs).flatten), ρ) else none
  | _, _ => none
@[simp] theorem repK_l {k : Int} : repK (.lst xs) (.int k) ρ = if k < 1000000 ∧ -1000000 < k ∧ xs.length * k.toNat ≤ 16777216 then some (.ok (.lst (List.replicate k.toNat xs).flatten), ρ) else none := rfl
@[simp] theorem nRep_ap (fa fb : SE) : nRep fa fb ρ = bK (fa ρ) fun x => SM.bind fb fun y => repK x y := by
  unfold nRep
  rw [bind_ap]
  rfl
@[simp] theorem posO_none : posO none ρ = some (.ok none, ρ) := rfl
def poK (x : PV) : SM (Option Int) := fun ρ => match x with
  | .int i => some (.ok (some i), ρ)
  | _ => none
@[simp] theorem poK_i {i : Int} : poK (.int i) ρ = some (.ok (some i), ρ) := rfl
@[simp] theorem posO_some (f : SE) : posO (some f) ρ = bK (f ρ) poK := by
  unfold posO
  dsimp only
  rw [bind_ap]
  rfl
def slK (lo hi : Option Int) (o : Option PV) : SE := fun ρ => match o with
  | some (.lst xs) => some (.ok (.lst (cutP xs lo hi)), ρ)
  | _ => none
@[simp] theorem slK_l {lo hi : Option Int} : slK lo hi (some (.lst xs)) ρ = some (.ok (.lst (cutP xs lo hi)), ρ) := rfl
@[simp] theorem nSl_ap (fx : SM Ar) (fl fh : SM (Option Int)) : nSl fx fl fh ρ = bK (fx ρ) fun a => SM.bind fl fun lo => SM.bind fh fun hi ρ => slK lo hi (contAr ρ a) ρ := by
  unfold nSl
  rw [bind_ap]
  rfl
def rvK1 (o : Option PV) : SE := fun ρ => match o with
  | some (.lst xs) => some (.ok (.lst xs.reverse), ρ)
  | _ => none
@[simp] theorem rvK1_l : rvK1 (some (.lst xs)) ρ = some (.ok (.lst xs.reverse), ρ) := rfl
@[simp] theorem nRev_ap (fx : SM Ar) : nRev fx ρ = bK (fx ρ) fun a ρ => rvK1 (contAr ρ a) ρ := by
  unfold nRev
  rw [bind_ap]
  rfl
def ml0K (i : Nat) (op : List PV → Option (PV × List PV)) (o : Option (List PV)) : SE := fun ρ => mlO ρ i (o.bind op)
@[simp] theorem ml0K_s {op : List PV → Option (PV × List PV)} : ml0K i op (some xs) ρ = mlO ρ i (op xs) := rfl
@[simp] theorem eMl0_ap {op : List PV → Option (PV × List PV)} : eMl0 i op ρ = ml0K i op (mtL ρ i) ρ := by
  unfold eMl0 ml0K
  cases mtL ρ i with
  | none => rfl
  | some xs =>
    show (match op xs with
      | some (z, ys) => some (Ou.ok z, putL ρ i ys)
      | none => none) = mlO ρ i (op xs)
    cases op xs with
    | none => rfl
    | some z => obtain ⟨a, b⟩ := z; rfl
@[simp] theorem mReverse_ap : mReverse xs = some (.non, xs.reverse) := rfl
@[simp] theorem mExtend_ap {ys : List PV} : mExtend xs [.lst ys] = if xs.length + ys.length ≤ 16777216 then some (.non, xs ++ ys) else none := rfl
@[simp] theorem mInsert_ap {i : Int} : mInsert xs [.int i, y] = if xs.length < 16777216 ∧ 0 ≤ i ∧ i < 1000000000 then some (.non, xs.take i.toNat ++ [y] ++ xs.drop i.toNat) else none := rfl
end
def fT (gm : GM) (b : SS) (fg : List Nat) (x : PV) (ρ : Rh) : Option (Fl × Rh) := forK (gm x ρ) fun ρ1 => match b ρ1 with
  | some (.nx, ρ2) => some (.nx, wipeR fg ρ2)
  | some (.ct, ρ2) => some (.nx, wipeR fg ρ2)
  | r => r
def ftK (fg : List Nat) (r : Option (Fl × Rh)) : Option (Fl × Rh) := match r with
  | some (.nx, ρ2) => some (.nx, wipeR fg ρ2)
  | some (.ct, ρ2) => some (.nx, wipeR fg ρ2)
  | r => r
section
variable {ρ : Rh} {fg : List Nat} {gm : GM} {b : SS} {x : PV}
@[simp] theorem ftK_nx : ftK fg (some (.nx, ρ)) = some (.nx, wipeR fg ρ) := rfl
@[simp] theorem ftK_ct : ftK fg (some (.ct, ρ)) = some (.nx, wipeR fg ρ) := rfl
@[simp] theorem ftK_bk : ftK fg (some (.bk, ρ)) = some (.bk, ρ) := rfl
@[simp] theorem ftK_rt {s : Sl} : ftK fg (some (.rt s, ρ)) = some (.rt s, ρ) := rfl
@[simp] theorem ftK_ex {c : Cid} : ftK fg (some (.ex c, ρ)) = some (.ex c, ρ) := rfl
theorem fT_ap : fT gm b fg x ρ = forK (gm x ρ) fun ρ1 => ftK fg (b ρ1) := by
  unfold fT ftK
  rfl
/-- how a loop goes on behind a turn -/
def goK (r : Option (Fl × Rh)) (k : SS) : Option (Fl × Rh) := match r with
  | some (.nx, ρ2) => k ρ2
  | some (.bk, ρ2) => some (.nx, ρ2)
  | r => r
@[simp] theorem goK_nx (k : SS) : goK (some (.nx, ρ)) k = k ρ := rfl
@[simp] theorem goK_bk (k : SS) : goK (some (.bk, ρ)) k = some (.nx, ρ) := rfl
@[simp] theorem goK_rt {s : Sl} (k : SS) : goK (some (.rt s, ρ)) k = some (.rt s, ρ) := rfl
@[simp] theorem goK_ex {c : Cid} (k : SS) : goK (some (.ex c, ρ)) k = some (.ex c, ρ) := rfl
theorem forL_cons (xs : List PV) : forL gm b fg (x :: xs) ρ = goK (fT gm b fg x ρ) (forL gm b fg xs) := by
  rw [forL]
  unfold fT
  dsimp only
  cases gm x ρ with
  | none => rfl
  | some ρ1 =>
    show _ = goK (match b ρ1 with
      | some (.nx, ρ2) => some (.nx, wipeR fg ρ2)
      | some (.ct, ρ2) => some (.nx, wipeR fg ρ2)
      | r => r) _
    dsimp only
    cases b ρ1 with
    | none => rfl
    | some w => obtain ⟨f, ρ2⟩ := w; cases f <;> rfl
theorem forLc_cons {ok : Rh → Prop} (xs : List PV) (h : ok ρ) : forLc ok gm b fg (x :: xs) ρ = goK (fT gm b fg x ρ) (forLc ok gm b fg xs) := by
  rw [forLc]
  unfold fT
  dsimp only
  rw [if_pos h]
  cases gm x ρ with
  | none => rfl
  | some ρ1 =>
    show _ = goK (match b ρ1 with
      | some (.nx, ρ2) => some (.nx, wipeR fg ρ2)
      | some (.ct, ρ2) => some (.nx, wipeR fg ρ2)
      | r => r) _
    dsimp only
    cases b ρ1 with
    | none => rfl
    | some w => obtain ⟨f, ρ2⟩ := w; cases f <;> rfl
theorem forLc_nil {ok : Rh → Prop} (h : ok ρ) : forLc ok gm b fg [] ρ = some (.nx, ρ) := by
  rw [forLc]
  exact if_pos h
theorem forL_c : ∀ (xs : List PV) (ρ : Rh), forL gm b fg xs ρ = forLc (fun _ => True) gm b fg xs ρ
  | [], ρ => (forLc_nil True.intro).symm
  | x :: xs, ρ => by
    rw [forL_cons, forLc_cons xs True.intro]
    congr 1
    funext ρ
    exact forL_c xs ρ
end
section
variable {ι γ : Type} {ok : Rh → Prop} {gm : GM} {b : SS} {fg : List Nat} {enc : ι → PV} {R : γ → Rh}
/-- an invariant over (how many are done, the state) -/
theorem forc_inv (hok : ∀ g, ok (R g)) (I : Nat → γ → Prop) : ∀ (xs : List ι) (n : Nat) (g : γ), I n g → (∀ i x g, xs[i]? = some x → I (n + i) g → ∃ g', fT gm b fg (enc x) (R g) = some (.nx, R g') ∧ I (n + i + 1) g') →
    ∃ g', forLc ok gm b fg (xs.map enc) (R g) = some (.nx, R g') ∧ I (n + xs.length) g'
  | [], n, g, h, _ => ⟨g, forLc_nil (hok g), h⟩
  | x :: xs, n, g, h, t => by
    obtain ⟨g1, e1, h1⟩ := t 0 x g rfl h
    obtain ⟨g2, e2, h2⟩ := forc_inv hok I xs (n + 1) g1 h1 fun i y g e h => by
      obtain ⟨g', q1, q2⟩ := t (i + 1) y g (by simpa using e) (by rw [show n + (i + 1) = n + 1 + i by omega]; exact h)
      exact ⟨g', q1, by rw [show n + 1 + i + 1 = n + (i + 1) + 1 by omega]; exact q2⟩
    refine ⟨g2, ?_, by rw [List.length_cons, show n + (xs.length + 1) = n + 1 + xs.length by omega]; exact h2⟩
    rw [List.map_cons, forLc_cons _ (hok g), e1, goK_nx, e2]
theorem for_inv (I : Nat → γ → Prop) (xs : List ι) (g : γ) (h : I 0 g) (t : ∀ i x g, xs[i]? = some x → I i g → ∃ g', fT gm b fg (enc x) (R g) = some (.nx, R g') ∧ I (i + 1) g') :
    ∃ g', forL gm b fg (xs.map enc) (R g) = some (.nx, R g') ∧ I xs.length g' := by
  obtain ⟨g', e, h'⟩ := forc_inv (ok := fun _ => True) (gm := gm) (b := b) (fg := fg) (enc := enc) (R := R) (fun _ => True.intro) I xs 0 g h (fun i x g e h => by
    rw [Nat.zero_add] at h ⊢
    exact t i x g e h)
  rw [Nat.zero_add] at h'
  exact ⟨g', by rw [forL_c, e], h'⟩
/-- nothing changes -/
theorem forc_all {ρ : Rh} (hok : ok ρ) : ∀ (xs : List ι), (∀ x, x ∈ xs → fT gm b fg (enc x) ρ = some (.nx, ρ)) → forLc ok gm b fg (xs.map enc) ρ = some (.nx, ρ)
  | [], _ => forLc_nil hok
  | x :: xs, t => by
    rw [List.map_cons, forLc_cons _ hok, t x (List.mem_cons_self ..), goK_nx, forc_all hok xs fun y h => t y (List.mem_cons_of_mem _ h)]
theorem for_all {ρ : Rh} (xs : List ι) (t : ∀ x, x ∈ xs → fT gm b fg (enc x) ρ = some (.nx, ρ)) : forL gm b fg (xs.map enc) ρ = some (.nx, ρ) := by
  rw [forL_c]
  exact forc_all True.intro xs t
end
def lcK (fe : SE) (r : Option (Ou Bool × Rh)) : Option (Option PV × Rh) := match r with
  | some (.ok true, ρ2) => (match fe ρ2 with
    | some (.ok y, ρ3) => some (some y, ρ3)
    | _ => none)
  | some (.ok false, ρ2) => some (none, ρ2)
  | _ => none
def lfK (r : Option (Ou PV × Rh)) : Option (Option PV × Rh) := match r with
  | some (.ok y, ρ3) => some (some y, ρ3)
  | _ => none
def ltK (o : Option Rh) (k : Rh → Option (Option PV × Rh)) : Option (Option PV × Rh) := match o with
  | some ρ => k ρ
  | none => none
section
variable {ρ : Rh} {fe : SE} {y : PV}
@[simp] theorem lcK_t : lcK fe (some (.ok true, ρ)) = lfK (fe ρ) := by
  unfold lcK lfK
  rfl
@[simp] theorem lcK_f : lcK fe (some (.ok false, ρ)) = some (none, ρ) := rfl
@[simp] theorem lfK_ok : lfK (some (.ok y, ρ)) = some (some y, ρ) := rfl
@[simp] theorem ltK_s {k : Rh → Option (Option PV × Rh)} : ltK (some ρ) k = k ρ := rfl
end
/-- one turn: what is made, if anything -/
def lT (gm : GM) (tst : SM Bool) (fe : SE) (vs : List Nat) (x : PV) (ρ : Rh) : Option (Option PV × Rh) := (ltK (gm x ρ) fun ρ1 => lcK fe (tst ρ1)).map fun z => (z.1, wipeR vs z.2)
def lcR (r : Option (List PV × Rh)) : Option (Ou PV × Rh) := match r with
  | some (acc, ρ') => some (.ok (.lst acc), ρ')
  | none => none
section
variable {ρ : Rh} {ok : Rh → Prop} {gm : GM} {tst : SM Bool} {fe : SE} {vs : List Nat} {x : PV} {xs acc : List PV}
@[simp] theorem lcR_s : lcR (some (acc, ρ)) = some (.ok (.lst acc), ρ) := rfl
@[simp] theorem lcM_ap {T : Type} (it : SM T) (vals : T → List PV) (okf : T → Rh → Prop) : lcM it vals okf gm tst fe vs ρ = bK (it ρ) fun t ρ => lcR (lcLc (okf t) gm tst fe vs (vals t) [] (wipeR vs ρ)) := by
  unfold lcM
  rw [bind_ap]
  rfl
def ihK (s : Option Sl) (ρ : Rh) : Option (Ou (List PV × Bool) × Rh) := match s with
  | some (.pu (.lst xs)) => some (.ok (xs, false), ρ)
  | some (.ow (.lst xs)) => some (.ok (xs, true), ρ)
  | some (.io (.lst xs)) => some (.ok (xs, true), ρ)
  | _ => none
@[simp] theorem ihK_pu : ihK (some (.pu (.lst xs))) ρ = some (.ok (xs, false), ρ) := rfl
@[simp] theorem ihK_ow : ihK (some (.ow (.lst xs))) ρ = some (.ok (xs, true), ρ) := rfl
@[simp] theorem ihK_io : ihK (some (.io (.lst xs))) ρ = some (.ok (xs, true), ρ) := rfl
@[simp] theorem itH_ap {k : Nat} : itH k ρ = ihK ρ[k]? ρ := by
  unfold itH ihK
  rfl
noncomputable def fhK (k : Nat) (gm : GM) (b : SS) (fg : List Nat) (s : Option Sl) (ρ : Rh) : Option (Fl × Rh) := match s with
  | some (.pu (.lst xs)) => forL gm b fg xs (wipeR fg ρ)
  | some (.ow (.lst xs)) => forL gm b fg xs (wipeR fg (ρ.set k (.pu (.lst xs))))
  | some (.io (.lst xs)) => forLc (ioIs k xs) gm b fg xs (wipeR fg ρ)
  | _ => none
@[simp] theorem fhK_pu {k : Nat} {b : SS} {fg : List Nat} : fhK k gm b fg (some (.pu (.lst xs))) ρ = forL gm b fg xs (wipeR fg ρ) := rfl
@[simp] theorem fhK_ow {k : Nat} {b : SS} {fg : List Nat} : fhK k gm b fg (some (.ow (.lst xs))) ρ = forL gm b fg xs (wipeR fg (ρ.set k (.pu (.lst xs)))) := rfl
@[simp] theorem fhK_io {k : Nat} {b : SS} {fg : List Nat} : fhK k gm b fg (some (.io (.lst xs))) ρ = forLc (ioIs k xs) gm b fg xs (wipeR fg ρ) := rfl
@[simp] theorem sForH_ap {k : Nat} {b : SS} {fg : List Nat} : sForH k gm b fg ρ = fhK k gm b fg ρ[k]? ρ := by
  unfold sForH fhK
  rfl
theorem lc_nil (h : ok ρ) (u : unAll vs ρ = true) : lcLc ok gm tst fe vs [] acc ρ = some (acc, ρ) := by
  rw [lcLc]
  exact if_pos ⟨h, u⟩
theorem lc_some {y : PV} {ρ' : Rh} (h : ok ρ) (u : unAll vs ρ = true) (hl : acc.length < 16777216) (e : lT gm tst fe vs x ρ = some (some y, ρ')) : lcLc ok gm tst fe vs (x :: xs) acc ρ = lcLc ok gm tst fe vs xs (acc ++ [y]) ρ' := by
  rw [lcLc]
  rw [if_pos ⟨h, u⟩]
  unfold lT at e
  cases q1 : gm x ρ with
  | none => rw [q1] at e; cases e
  | some ρ1 =>
    rw [q1, ltK_s] at e
    dsimp only
    cases q2 : tst ρ1 with
    | none => rw [q2] at e; cases e
    | some z =>
      obtain ⟨o, ρ2⟩ := z
      rw [q2] at e
      cases o with
      | ex c => cases e
      | ok k =>
        cases k with
        | false => cases e
        | true =>
          rw [lcK_t] at e
          dsimp only
          cases q3 : fe ρ2 with
          | none => rw [q3] at e; cases e
          | some w =>
            obtain ⟨o, ρ3⟩ := w
            rw [q3] at e
            cases o with
            | ex c => cases e
            | ok y' =>
              cases e
              dsimp only
              rw [if_pos hl]
theorem lc_none {ρ' : Rh} (h : ok ρ) (u : unAll vs ρ = true) (e : lT gm tst fe vs x ρ = some (none, ρ')) : lcLc ok gm tst fe vs (x :: xs) acc ρ = lcLc ok gm tst fe vs xs acc ρ' := by
  rw [lcLc]
  rw [if_pos ⟨h, u⟩]
  unfold lT at e
  cases q1 : gm x ρ with
  | none => rw [q1] at e; cases e
  | some ρ1 =>
    rw [q1, ltK_s] at e
    dsimp only
    cases q2 : tst ρ1 with
    | none => rw [q2] at e; cases e
    | some z =>
      obtain ⟨o, ρ2⟩ := z
      rw [q2] at e
      cases o with
      | ex c => cases e
      | ok k =>
        cases k with
        | false => cases e; rfl
        | true =>
          rw [lcK_t] at e
          cases q3 : fe ρ2 with
          | none => rw [q3] at e; cases e
          | some w =>
            obtain ⟨o, ρ3⟩ := w
            rw [q3] at e
            cases o with
            | ex c => cases e
            | ok y' => cases e
end
section
variable {ι γ κ : Type} {ok : Rh → Prop} {gm : GM} {tst : SM Bool} {fe : SE} {vs : List Nat} {enc : ι → PV} {R : γ → Rh} {enc2 : κ → PV}
/-- what is made of each item for which p holds -/
theorem lc_map {ρ : Rh} (hok : ok ρ) (hu : unAll vs ρ = true) (p : ι → Bool) (f : ι → κ) : ∀ (xs : List ι) (acc : List PV), acc.length + xs.length ≤ 16777216 → (∀ x, x ∈ xs → lT gm tst fe vs (enc x) ρ = some (if p x = true then some (enc2 (f x)) else none, ρ)) →
    lcLc ok gm tst fe vs (xs.map enc) acc ρ = some (acc ++ ((xs.filter p).map f).map enc2, ρ)
  | [], acc, _, _ => by
    rw [List.map_nil, lc_nil hok hu]
    simp
  | x :: xs, acc, hl, t => by
    have e := t x (List.mem_cons_self ..)
    rw [List.length_cons] at hl
    cases q : p x with
    | true =>
      rw [q, if_pos rfl] at e
      rw [List.map_cons, lc_some hok hu (by omega) e, lc_map hok hu p f xs (acc ++ [enc2 (f x)]) (by rw [List.length_append, List.length_singleton]; omega) fun y h => t y (List.mem_cons_of_mem _ h)]
      simp [List.filter_cons, q]
    | false =>
      rw [q, if_neg (by simp)] at e
      rw [List.map_cons, lc_none hok hu e, lc_map hok hu p f xs acc (by omega) fun y h => t y (List.mem_cons_of_mem _ h)]
      simp [List.filter_cons, q]
end
end Y


namespace Y
open PySem PySem.Spec L2
section
variable {X : Cx} {S : Sg} {φ : Fr} {W : WX} {pos : Pos}
def gU (gs : List PV → Rh → Option Rh) : GM := fun x ρ => match x with
  | .tup xs => gs xs ρ
  | .lst xs => gs xs ρ
  | _ => none
@[simp] theorem gU_t {ρ : Rh} (gs : List PV → Rh → Option Rh) (xs : List PV) : gU gs (.tup xs) ρ = gs xs ρ := rfl
@[simp] theorem gU_l {ρ : Rh} (gs : List PV → Rh → Option Rh) (xs : List PV) : gU gs (.lst xs) ρ = gs xs ρ := rfl
end
end Y


namespace PySem.W
open PySem PySem.Calls PyProof.Rows
section
variable {prog : Program} {w : World} {A : Around} {E : Value → Shared → Prop} {s : Shared} {K : Frag} {x C f : Addr} {ox : Obj} {od : Option Obj} {nm : String}
end
end PySem.W
namespace Y
open PySem PySem.Spec L2
structure NoIn (S : Sg) (o : Operator) (c : Cid) : Prop where
  ex : ∃ cd, PySem.W.clsIn S.K (S.ca c) = some cd ∧ cd.mro = [.ref (S.ca c), .type "object"]
  a : PySem.W.findIn S.K (.ref (S.ca c)) (dunderI o.info.2) = some none
  b : PySem.W.findIn S.K (.type "object") (dunderI o.info.2) = some none
section
variable {X : Cx} {S : Sg}
variable {φ : Fr} {W : WX} {fe : SE} {e : Expr} {pos : Pos}
/-- a name that holds a frozen value -/
def eP (i : Nat) : SE := fun ρ => match ρ[i]? with
  | some (.pu x) => some (.ok x, ρ)
  | _ => none
def sAug (i : Nat) (op : PV → PV → Option PV) (fe : SE) : SS := sSet (gN i) (eOp op (eP i) fe)
variable {fa fb fc : SE} {a b c : Expr}
/-- a, b, c = x, y, z -/
def sPar3 (i j l : Nat) (fp : SM (List PV)) : SS := sE fp fun xs => fun ρ => match xs with
  | [x, y, z] => (gN i x ρ).bind fun ρ1 => (gN j y ρ1).bind fun ρ2 => (gN l z ρ2).map fun ρ3 => (.nx, ρ3)
  | _ => none
end
end Y


namespace Y
open PySem PySem.Spec L2
section
variable {ρ : Rh} {i j l : Nat}
def par3 (i j l : Nat) : List PV → Rh → Option (Fl × Rh)
  | [x, y, z], ρ => nxK (((gN i x ρ).bind (gN j y)).bind (gN l z))
  | _, _ => none
@[simp] theorem par3_ap {x y z : PV} : par3 i j l [x, y, z] ρ = nxK (((gN i x ρ).bind (gN j y)).bind (gN l z)) := rfl
@[simp] theorem sPar3_ap (f : SM (List PV)) : sPar3 i j l f ρ = eK (f ρ) (par3 i j l) := by
  have e : par3 i j l = fun xs => fun ρ => match xs with
    | [x, y, z] => (gN i x ρ).bind fun ρ1 => (gN j y ρ1).bind fun ρ2 => (gN l z ρ2).map fun ρ3 => (.nx, ρ3)
    | _ => none := by
    funext xs ρ
    unfold par3
    split
    · rename_i x y z
      dsimp only
      cases gN i x ρ with
      | none => rfl
      | some r =>
        dsimp only [Option.bind_some]
        cases gN j y r with
        | none => rfl
        | some r2 =>
          dsimp only [Option.bind_some]
          cases gN l z r2 <;> rfl
    · rename_i h
      split
      · rename_i x y z
        exact absurd rfl (h x y z)
      · rfl
  rw [e]
  rfl
def ePK : Option Sl → Rh → Option (Ou PV × Rh)
  | some (.pu x), ρ => some (.ok x, ρ)
  | _, _ => none
@[simp] theorem eP_ap : eP i ρ = ePK ρ[i]? ρ := by
  unfold eP
  cases h : ρ[i]? with
  | none => rfl
  | some s => cases s <;> rfl
@[simp] theorem ePK_pu {x : PV} : ePK (some (.pu x)) ρ = some (.ok x, ρ) := rfl
@[simp] theorem sAug_ap {op : PV → PV → Option PV} {fe : SE} : sAug i op fe ρ = sSet (gN i) (eOp op (eP i) fe) ρ := rfl
end
end Y


namespace PySem.W
open PySem PySem.Calls PyProof.Rows
section
variable {prog : Program} {w : World} {A : Around} {R : Result → Shared → Prop} {I : Addr} {fp wr : List Addr} {n : Nat} {P : Nat → Value → Prop} {St : Nat → Heap → Prop}

end
end PySem.W
namespace Y
open PySem PySem.Spec L2 PyProof.Rows
section
variable {X : Cx} {S : Sg}

def rMaxD (K : PySem.W.Frag) : List V → List V → Hp → VK → Prop := fun vs zs H Q => ∃ (a : Addr) (ns : List Int) (d : V), vs = [V.ref a] ∧ zs = [d] ∧ SqL K H a (ns.map V.int) ∧ (ns = [] → Q d H) ∧ ∀ m, m ∈ ns → (∀ y, y ∈ ns → y ≤ m) → Q (.int m) H
def rMinD (K : PySem.W.Frag) : List V → List V → Hp → VK → Prop := fun vs zs H Q => ∃ (a : Addr) (ns : List Int) (d : V), vs = [V.ref a] ∧ zs = [d] ∧ SqL K H a (ns.map V.int) ∧ (ns = [] → Q d H) ∧ ∀ m, m ∈ ns → (∀ y, y ∈ ns → m ≤ y) → Q (.int m) H
/-- the answer of max(list, default=d), of ints -/
def bMaxD (x d : PV) : Option PV := match x with
  | .lst xs => (intsP xs).map fun ns => match mxI ns with
    | some m => .int m
    | none => d
  | _ => none
def bMinD (x d : PV) : Option PV := match x with
  | .lst xs => (intsP xs).map fun ns => match mnI ns with
    | some m => .int m
    | none => d
  | _ => none
def HkR (X : Cx) (S : Sg) (id : String) (op : PV → PV → Option PV) : Prop := ∃ r : List V → List V → Hp → VK → Prop, CallRK X (.builtin id) [Str.ofString "default"] r ∧
  ∀ (F H : Hp) (x y z : PV) (v w : V) (Q : VK), Same F H → CtR S F H x v → Rep S F y w → op x y = some z → (∀ u F' H', Gw F H F' H' → Rep S F' z u → Q u H') → r [v] [w] H Q
variable {φ : Fr} {W : WX} {fa : SM Ar} {fd : SE} {a d : Expr} {x : Str} {p pos kpos : Pos} {id : String}
def on1 (op : PV → PV → Option PV) (d : PV) : List PV → Option PV
  | [x] => op x d
  | _ => none
def eMxD (op : PV → PV → Option PV) (fa : SM Ar) (fd : SE) : SE := fa.bind fun a => fd.bind fun d => atEnd (on1 op d) [a]
@[simp] theorem on1_ap {op : PV → PV → Option PV} {d x : PV} : on1 op d [x] = op x d := rfl
@[simp] theorem eMxD_ap (op : PV → PV → Option PV) (fa : SM Ar) (fd : SE) {ρ : Rh} : eMxD op fa fd ρ = bK (fa ρ) fun a => SM.bind fd fun d => atEnd (on1 op d) [a] := by
  unfold eMxD
  rw [bind_ap]
def mxO (d : PV) : Option Int → PV
  | some m => .int m
  | none => d
@[simp] theorem mxO_s {d : PV} {m : Int} : mxO d (some m) = .int m := rfl
@[simp] theorem mxO_n {d : PV} : mxO d none = d := rfl
end
end Y



namespace Y
open PySem PySem.Spec L2
section
variable {X : Cx} {S : Sg}
theorem tyx_ct {F H : Hp} {x : PV} {v : V} {t : Tg} (s : Same F H) (r : CtR S F H x v) (e : tgOf x = some t) (hc : ∀ c, t = .c c → ClsOk S c) (hl : ∀ ks xs, x ≠ .dct ks xs) (ho : ∀ c xs, x ≠ .obj c xs) : TyX S.K H v (t.v S) := by
  rcases r with r | ⟨p, rfl, t'⟩
  · exact tyx_of s r e hc
  · cases x with
    | lst xs =>
      cases e
      obtain ⟨vs, h1, _⟩ := t'
      exact .base (.lst h1)
    | dct ks xs => exact absurd rfl (hl ks xs)
    | dcn ks xs => cases e
    | dtt ks xs => cases e
    | obj c xs => exact absurd rfl (ho c xs)
    | _ => exact (show False from t').elim
def noDO : PV → Bool
  | .dct _ _ => false
  | .obj _ _ => false
  | _ => true
def bIsiH (tb : Tg → PV → Option Bool) : List PV → Option PV
  | [x, y] => if noDO x = true then bIsi tb [x, y] else none
  | _ => none
theorem b_isiH {cs : List Cid} {tb : Tg → PV → Option Bool} (hK : X.K = S.K) (I : Isi S cs tb) : HfR X S (.builtin "isinstance") (bIsiH tb) := ⟨_, call_isi, fun F H xs z vs Q s r e k => by
  unfold bIsiH at e
  split at e
  · rename_i x y
    split at e
    · rename_i hd
      unfold bIsi at e
      dsimp only at e
      cases q : tgOf x with
      | none => rw [q] at e; cases e
      | some t =>
        rw [q] at e
        dsimp only at e
        cases q2 : tb t y with
        | none => rw [q2] at e; cases e
        | some b =>
          rw [q2] at e
          cases e
          obtain ⟨v, r', rfl, hv, w, r'', rfl, hw, hn⟩ := r
          have hn : r'' = [] := hn
          subst hn
          have ty := tyx_ct s hv q (fun c ec => I.cls c (I.has c y b (by rw [← ec]; exact q2))) (fun ks xs z => by rw [z] at hd; cases hd) (fun c xs z => by rw [z] at hd; cases hd)
          rw [hK]
          rcases I.ok t y b q2 with ⟨n, rfl, h⟩ | ⟨c, rfl, h⟩
          · rcases hw with hw | ⟨p, _, z⟩
            · exact ⟨v, w, _, .type n, b, rfl, by (have hw : w = .ty n := hw); rw [hw]; exact .ty n, ty, h, k _ F H (Gw.rfl' s) rfl⟩
            · exact (show False from z).elim
          · rcases hw with hw | ⟨p, _, z⟩
            · exact ⟨v, w, _, .ref (S.ca c), b, rfl, by (have hw : w = .ref (S.ca c) := hw); rw [hw]; exact .own _, ty, h, k _ F H (Gw.rfl' s) rfl⟩
            · exact (show False from z).elim
    · cases e
  · cases e⟩
@[simp] theorem bIsiH_l {tb : Tg → PV → Option Bool} {xs : List PV} {y : PV} : bIsiH tb [.lst xs, y] = bIsi tb [.lst xs, y] := rfl
@[simp] theorem bIsiH_n {tb : Tg → PV → Option Bool} {y : PV} : bIsiH tb [.non, y] = bIsi tb [.non, y] := rfl
@[simp] theorem bIsiH_t {tb : Tg → PV → Option Bool} {xs : List PV} {y : PV} : bIsiH tb [.tup xs, y] = bIsi tb [.tup xs, y] := rfl
@[simp] theorem bIsiH_i {tb : Tg → PV → Option Bool} {i : Int} {y : PV} : bIsiH tb [.int i, y] = bIsi tb [.int i, y] := rfl
@[simp] theorem bIsiH_b {tb : Tg → PV → Option Bool} {b : Bool} {y : PV} : bIsiH tb [.bl b, y] = bIsi tb [.bl b, y] := rfl
end
end Y


namespace Y
open PySem PySem.Spec L2
open PyProof.Rows (envOfC)
section
variable {X : Cx} {S : Sg} {φ : Fr} {W : WX} {e a b c : Expr} {es : List Expr} {f fa fb fc : SE} {pos : Pos}
def callM (g : Fn) (dv : List PV) (as : List Ar) (x : PV) : SM Sl := fun ρ => if (owns as).all (fun i => decide (i < ρ.length)) = true then (match callG g dv (.own ρ.length :: as) (ρ ++ [.ow x]) with
  | some (r, ρ') => if ρ'.length = ρ.length + 1 then some (r, ρ'.dropLast) else none
  | none => none) else none
def eCallM (g : Fn) (dv : List PV) (fa : SE) (fs : SM (List Ar)) : SM Sl := fa.bind fun x => fs.bind fun as => callM g dv as x
/-- the arguments behind it, whatever the frame -/
theorem JA.any {fs : SM (List Ar)} (h : ∀ φ, JA X S φ W es fs) : PA X es (fun σ H Q => ∃ φ, tA S φ W fs σ H Q) := ⟨fun pos pins s σ H Q I ⟨φ, q⟩ => (h φ).run pos pins s σ H Q I q⟩
@[simp] theorem eCallM_ap (g : Fn) (dv : List PV) (fa : SE) (fs : SM (List Ar)) {ρ : Rh} : eCallM g dv fa fs ρ = bK (fa ρ) fun x => SM.bind fs fun as => callM g dv as x := by
  unfold eCallM
  rw [bind_ap]
@[simp] theorem callM_ap {g : Fn} {dv : List PV} {as : List Ar} {x : PV} {ρ : Rh} : callM g dv as x ρ = if (owns as).all (fun i => decide (i < ρ.length)) = true then ctK (callG g dv (.own ρ.length :: as) (ρ ++ [.ow x])) ρ.length else none := by
  unfold callM ctK
  split
  · cases callG g dv (.own ρ.length :: as) (ρ ++ [.ow x]) with
    | none => rfl
    | some z => rfl
  · rfl
end
end Y


namespace Y
open PySem PySem.Spec L2 PyProof.Rows
theorem un1 {A : Around} {k : Nat} (hr : Room k A) : A.units + 1 < cLine := by have := hr.un; omega
def keyP : PV → Option Key
  | .int i => some (.inl i)
  | .str x => some (.inr x)
  | _ => none
def keyV : Key → PV
  | .inl i => .int i
  | .inr x => .str x
/-- what stands at the key k -/
def valX (k : Key) : List Key → List PV → Option PV
  | k' :: ks, x :: xs => if k' = k then some x else valX k ks xs
  | _, _ => none
def repX (k : Key) (y : PV) : List Key → List PV → List PV
  | k' :: ks, x :: xs => (if k' = k then y else x) :: repX k y ks xs
  | _, _ => []
def hasX (k : Key) (ks : List Key) : Bool := ks.any fun k' => decide (k' = k)
def putX (k : Key) (y : PV) (ks : List Key) (xs : List PV) : List Key × List PV := if hasX k ks = true then (ks, repX k y ks xs) else (ks ++ [k], xs ++ [y])
/-- what stands at y, if anything -/
def dgetP (x y : PV) : Option (Option PV) := match x with
  | .dct ks xs => (keyP y).map fun k => valX k ks xs
  | _ => none
section
variable {X : Cx} {S : Sg} {φ : Fr} {W : WX} {e a b : Expr} {es : List Expr} {f fa fb fc fy fx fd : SE} {pos : Pos} {F H : Hp}
theorem keyP_rep {y : PV} {w : V} {k : Key} (e : keyP y = some k) (r : Rep S F y w) : w = kV k := by
  cases y with
  | int i => cases e; exact r
  | str x => cases e; exact r
  | _ => cases e
theorem keyV_rep {k : Key} : Rep S F (keyV k) (kV k) := by cases k <;> rfl
theorem valX_rep (k : Key) : ∀ {ks : List Key} {xs : List PV} {vs : List V}, Reps S F xs vs → ks.length = vs.length → match valX k ks xs with
    | some x => ∃ v, valV (ks.zip vs) k = some v ∧ Rep S F x v
    | none => valV (ks.zip vs) k = none
  | [], xs, vs, r, hl => by
    cases xs with
    | nil => exact rfl
    | cons x xs => exact rfl
  | k' :: ks, [], vs, r, hl => by
    have r : vs = [] := r
    subst r
    cases hl
  | k' :: ks, x :: xs, vs, r, hl => by
    obtain ⟨v, t, rfl, h2, h3⟩ := r
    unfold valX
    rw [List.zip_cons_cons]
    by_cases q : k' = k
    · rw [if_pos q]
      exact ⟨v, valV_pos q, h2⟩
    · rw [if_neg q, valV_neg q]
      exact valX_rep k h3 (by simpa using hl)
theorem repX_rep (k : Key) {y : PV} {w : V} (ry : Rep S F y w) : ∀ {ks : List Key} {xs : List PV} {vs : List V}, Reps S F xs vs → ks.length = vs.length → ∃ ws, (ks.zip vs).map (fun kv => if kv.1 = k then (kv.1, w) else kv) = ks.zip ws ∧ Reps S F (repX k y ks xs) ws ∧ ks.length = ws.length
  | [], xs, vs, r, hl => ⟨[], rfl, by cases xs <;> exact rfl, rfl⟩
  | k' :: ks, [], vs, r, hl => by
    have r : vs = [] := r
    subst r
    cases hl
  | k' :: ks, x :: xs, vs, r, hl => by
    obtain ⟨v, t, rfl, h2, h3⟩ := r
    obtain ⟨ws, e1, e2, e3⟩ := repX_rep k ry h3 (by simpa using hl)
    refine ⟨(if k' = k then w else v) :: ws, ?_, ?_, by simpa using e3⟩
    · rw [List.zip_cons_cons, List.map_cons, e1, List.zip_cons_cons]
      split <;> rfl
    · refine ⟨_, ws, rfl, ?_, e2⟩
      split
      · exact ry
      · exact h2
theorem any_zip (k : Key) : ∀ {ks : List Key} {vs : List V}, ks.length = vs.length → ((ks.zip vs).any fun kv => decide (kv.1 = k)) = hasX k ks
  | [], vs, _ => by simp [hasX]
  | k' :: ks, [], h => by cases h
  | k' :: ks, v :: vs, h => by
    rw [List.zip_cons_cons, List.any_cons, any_zip k (by simpa using h)]
    rfl
theorem putX_rep (k : Key) {y : PV} {w : V} (ry : Rep S F y w) {ks : List Key} {xs : List PV} {vs : List V} (r : Reps S F xs vs) (hl : ks.length = vs.length) :
    ∃ ws, putK (ks.zip vs) k w = (putX k y ks xs).1.zip ws ∧ Reps S F (putX k y ks xs).2 ws ∧ (putX k y ks xs).1.length = ws.length := by
  unfold putX putK
  rw [any_zip k hl]
  cases q : hasX k ks with
  | true =>
    rw [if_pos rfl, if_pos rfl]
    obtain ⟨ws, e1, e2, e3⟩ := repX_rep k ry r hl
    exact ⟨ws, e1, e2, e3⟩
  | false =>
    rw [if_neg (by simp), if_neg (by simp)]
    refine ⟨vs ++ [w], ?_, Reps.append r (Reps.cons ry Reps.nil), by simp [hl]⟩
    show ks.zip vs ++ [(k, w)] = (ks ++ [k]).zip (vs ++ [w])
    rw [List.zip_append hl]
    rfl
/-- a dict, read now -/
theorem dct_ct {ks : List Key} {xs : List PV} {v : V} (s : Same F H) (r : CtR S F H (.dct ks xs) v) : ∃ p vs, v = .ref p ∧ Rd H p (.dK (ks.zip vs)) ∧ ks.length = vs.length ∧ Reps S F xs vs := by
  rcases r with ⟨p, od, vs, h1, h2, h3, h4⟩ | ⟨p, h1, vs, h2, h3, h4⟩
  · exact ⟨p, vs, h1, .inr ⟨od, s _ _ h2⟩, h3, h4⟩
  · exact ⟨p, vs, h1, .inl h2, h3, h4⟩
def DgR (S : Sg) (F H : Hp) (p : Addr) (w : V) : Option PV → Prop
  | some z => ∃ u, DGet H p w (some u) ∧ Rep S F z u
  | none => DGet H p w none
theorem dget_ct {x y : PV} {v w : V} {o : Option PV} (s : Same F H) (r : CtR S F H x v) (ry : Rep S F y w) (e : dgetP x y = some o) : ∃ p, v = .ref p ∧ IsD H p ∧ DgR S F H p w o := by
  unfold dgetP at e
  split at e
  · rename_i ks xs
    cases q : keyP y with
    | none => rw [q] at e; cases e
    | some k =>
      rw [q] at e
      cases e
      obtain ⟨p, vs, rfl, h2, h3, h4⟩ := dct_ct s r
      have ew := keyP_rep q ry
      refine ⟨p, rfl, .inl ⟨_, h2⟩, ?_⟩
      have g := valX_rep k h4 h3
      show DgR S F H p w (valX k ks xs)
      cases z : valX k ks xs with
      | none =>
        rw [z] at g
        exact Or.inl ⟨_, k, h2, ew, g.symm⟩
      | some x =>
        rw [z] at g
        obtain ⟨u, g1, g2⟩ := g
        exact ⟨u, Or.inl ⟨_, k, h2, ew, g1.symm⟩, g2⟩
  · cases e

theorem jn_dct : JN X S φ W (.Dict [] [] pos) (eC (.dct [] [])) := pe_dnewK.imp fun σ H Q ⟨ρ, F, r, s, e1, o⟩ => by
  cases e1
  intro p hp
  obtain ⟨s2, nw⟩ := s.newOwn (o := .dK []) hp
  exact o _ _ s2 (Same.refl _) p nw ⟨[], upd_same, rfl, rfl⟩
def eDgV (i : Nat) (fb : SE) : SE := fun ρ => if isB ρ i = true then (fb.bind fun y => fun ρ => match heldP ρ i with
  | some x => (match dgetP x y with
    | some (some z) => some (.ok z, ρ)
    | _ => none)
  | none => none) ρ else none
theorem je_dgV (i : Nat) {x : Str} {pos' : Pos} (hu : X.A.units + 1 < cLine) (hb : JE X S φ W b fb) (hN : X.N[i]? = some x := by rfl) (hv : Vis X.env.scope x := by first | exact Or.inl rfl | exact Or.inr (Or.inl rfl) | exact Or.inr (Or.inr rfl)) (hs : NoSl b := by exact fun _ _ => rfl)
    (hd : (x == ("__debug__" : Str)) = false := by decide) (hcd : (x == ("__classdict__" : Str)) = false := by decide) : JE X S φ W (.Subscript (.Name x pos') b pos) (eDgV i fb) := (pe_dget hu (pe_var hN hv hd hcd) hb hs).imp fun σ H Q ⟨ρ, F, r, s, e1, o⟩ => by
  unfold eDgV at e1
  split at e1
  · rename_i hB
    obtain ⟨r1, e2, o2⟩ := OG.seq e1 o
    obtain ⟨v, hv⟩ := s.isB hB
    refine ⟨v, hv, ρ, F, r1, s, e2, o2.imp fun y ρ1 F1 H1 s1 m1 ⟨r2, e3, o3⟩ w hw => ?_⟩
    dsimp only at e3
    split at e3
    · rename_i x q
      split at e3
      · rename_i z q2
        cases e3
        obtain ⟨p, g1, _, u, g2, g3⟩ := dget_ct s1.same (s1.held q hv) hw q2
        exact ⟨p, u, g1, g2, o3 F1 H1 s1 (Same.refl _) u g3⟩
      · cases e3
    · cases e3
  · cases e1
def eInD (n : Bool) (fy fx : SE) : SE := fy.bind fun y => fx.bind fun x => fun ρ => match dgetP x y with
  | some o => some (.ok (.bl (n != o.isSome)), ρ)
  | none => none
theorem in_red {n : Bool} {σ : L2.St} {H : Hp} {Q : VK} (h : tJ S φ W (eInD n fy fx) σ H Q) : tJ S φ W fy σ H fun w H1 => tB S φ W fx σ H1 fun v H2 => ∃ a o, v = .ref a ∧ DGet H2 a w o ∧ Q (.bl (n != o.isSome)) H2 := by
  obtain ⟨ρ, F, z, s, e1, o⟩ := h
  obtain ⟨r1, e2, o2⟩ := OG.seq e1 o
  refine ⟨ρ, F, r1, s, e2, o2.imp fun y ρ1 F1 H1 s1 m1 ⟨r2, e3, o3⟩ w hw => ?_⟩
  obtain ⟨r3, e4, o4⟩ := OG.seq e3 o3
  refine ⟨ρ1, F1, r3, s1, e4, o4.imp fun x ρ2 F2 H2 s2 m2 ⟨r4, e5, o5⟩ v hv => ?_⟩
  dsimp only at e5
  cases q : dgetP x y with
  | none => rw [q] at e5; cases e5
  | some oo =>
    rw [q] at e5
    cases e5
    obtain ⟨p, g1, _, g2⟩ := dget_ct s2.same hv (Rep.mono m2 _ _ hw) q
    cases oo with
    | none => exact ⟨p, none, g1, g2, o5 F2 H2 s2 (Same.refl _) _ rfl⟩
    | some z =>
      obtain ⟨u, g2, g3⟩ := g2
      exact ⟨p, some u, g1, g2, o5 F2 H2 s2 (Same.refl _) _ rfl⟩
theorem nb_ {k : Bool} : (false != k) = k := by cases k <;> rfl
theorem jt_inD (hu : X.A.units + 1 < cLine) (ha : JE X S φ W a fa) (hb : JB X S φ W b fb) (hm : behindInMarks .In b = false := by rfl) : JT X S φ W (.Compare a [.In] [b] pos) (eBl (eInD false fa fb)) := (pt_cmp (pc_din hu ha hb) hm).imp fun σ H Q h => test_of (fun σ H Q h => by
  have q := in_red h
  simp only [nb_] at q
  exact q) h
def isDc : Option PV → Bool
  | some (.dct _ _) => true
  | _ => false
def getK (y x : PV) (o : Option PV) : SE := fun ρ => match o with
  | some z => (match dgetP z y with
    | some o => some (.ok (o.getD x), ρ)
    | none => none)
  | none => none
def eGet2 (fr : SM Ar) (fy fx : SE) : SE := fr.bind fun a => fun ρ => if isDc (contAr ρ a) = true then (fy.bind fun y => fx.bind fun x => fun ρ => getK y x (contAr ρ a) ρ) ρ else none
def mtD (ρ : Rh) (i : Nat) : Option (List Key × List PV) := match ρ[i]? with
  | some (.ow (.dct ks xs)) => some (ks, xs)
  | some (.io (.dct ks xs)) => some (ks, xs)
  | _ => none
def putD (ρ : Rh) (i : Nat) (d : List Key × List PV) : Rh := match ρ[i]? with
  | some t => ρ.set i (t.put (.dct d.1 d.2))
  | none => ρ
theorem Stt.mtD {σ : L2.St} {F H : Hp} {ρ : Rh} {i : Nat} {ks : List Key} {xs : List PV} (s : Stt S φ ρ F σ H) (h : Y.mtD ρ i = some (ks, xs)) : ∃ t p vs, ρ[i]? = some t ∧ t.Mt (.dct ks xs) ∧ σ[i]? = some (some (.ref p)) ∧ F p = none ∧ H p = some (.dK (ks.zip vs)) ∧ ks.length = vs.length ∧ Reps S F xs vs := by
  unfold Y.mtD at h
  split at h
  · rename_i ks' ys q
    cases h
    obtain ⟨p, h1, h2, h3, vs, h4, h5, h6⟩ := s.slot i _ q
    exact ⟨_, p, vs, q, .ow _, h1, h2, h4, h5, h6⟩
  · rename_i ks' ys q
    cases h
    obtain ⟨p, h1, h2, h3, vs, h4, h5, h6⟩ := s.slot i _ q
    exact ⟨_, p, vs, q, .io _, h1, h2, h4, h5, h6⟩
  · cases h
def setD1 (i : Nat) (x k : PV) : SS := fun ρ => match keyP k with
  | some k => (match mtD ρ i with
    | some d => if d.2.length < 16777216 then some (.nx, putD ρ i (putX k x d.1 d.2)) else none
    | none => none)
  | none => none
def sSetD (i : Nat) (fe fk : SE) : SS := sE fe fun x => fun ρ => if isB ρ i = true then sE fk (setD1 i x) ρ else none
theorem js_setd (i : Nat) {x : Str} {pos' pos2 : Pos} (hu : X.A.units + 1 < cLine) (he : JE X S φ W e fa) (hk : JE X S φ W b fb) (hN : X.N[i]? = some x := by rfl) (hv : Vis X.env.scope x := by first | exact Or.inl rfl | exact Or.inr (Or.inl rfl) | exact Or.inr (Or.inr rfl))
    (hd : (x == ("__debug__" : Str)) = false := by decide) (hcd : (x == ("__classdict__" : Str)) = false := by decide)
    (hs : swapsWith e (some (.Subscript (.Name x pos') b pos2)) pos.line X.env = pure false := by rfl) :
    JS X S φ W (.Assign [.Subscript (.Name x pos') b pos2] e pos) (sSetD i fa fb) := (ps_dput hu (pe_var hN hv hd hcd) hk he hs).imp fun D σ H ⟨ρ, F, r, s, e1, o⟩ => by
  obtain ⟨r1, e2, o2⟩ := OS.seqE (σ := σ) e1 o
  refine ⟨ρ, F, r1, s, e2, o2.imp fun x ρ1 F1 H1 s1 m1 ⟨r2, e3, o3⟩ v hv => ?_⟩
  split at e3
  · rename_i hB
    obtain ⟨w, hw⟩ := s1.isB hB
    obtain ⟨r3, e4, o4⟩ := OS.seqE (σ := σ) e3 o3
    refine ⟨w, hw, ρ1, F1, r3, s1, e4, o4.imp fun k ρ2 F2 H2 s2 m2 ⟨r4, e5, o5⟩ u hu => ?_⟩
    unfold setD1 at e5
    cases qk : keyP k with
    | none => rw [qk] at e5; cases e5
    | some kk =>
      rw [qk] at e5
      dsimp only at e5
      cases q : mtD ρ2 i with
      | none => rw [q] at e5; cases e5
      | some d =>
        obtain ⟨ks, xs⟩ := d
        rw [q] at e5
        dsimp only at e5
        split at e5
        · rename_i hl
          cases e5
          obtain ⟨t, p, vs, g1, g2, g3, g4, g5, g6, g7⟩ := s2.mtD q
          rw [hw] at g3
          cases g3
          have eu := keyP_rep qk hu
          obtain ⟨ws, k1, k2, k3⟩ := putX_rep kk (Rep.mono m2 _ _ hv) g7 g6
          refine ⟨p, _, rfl, .inl ⟨_, kk, g5, eu, ?_, rfl⟩, o5 F2 σ _ ?_ (Same.refl _)⟩
          · rw [sizeLine_eq, List.length_zip, g6, Nat.min_self, ← g7.length]
            exact hl
          · unfold Y.putD
            rw [g1, k1]
            exact s2.write g1 g2 hw fun H' h => ⟨ws, h, k3, k2⟩
        · cases e5
  · cases e3

theorem wk_keys {F : Hp} {d : Addr} {o : Obj} {ks : List Key} {vs : List V} (h : F d = some (.frz o (.dK (ks.zip vs)))) (hl : ks.length = vs.length) : Wk S F (ks.map keyV) (Itk d o (ks.zip vs)) where
  go := fun i H s hi => ⟨s _ _ h, by rw [List.length_zip, ← hl, Nat.min_self]; simpa using hi⟩
  stop := fun i H s hi => ⟨s _ _ h, by rw [List.length_zip, ← hl, Nat.min_self]; simpa using hi⟩
  yld := fun i F1 H v H' s1 s2 hi ⟨e, k, u, q, ev⟩ => by
    subst e ev
    have q1 := List.getElem?_zip_eq_some.mp q
    refine ⟨keyV k, F1, ?_, Gw.rfl' s2, keyV_rep⟩
    rw [List.getElem?_map, q1.1]
    rfl
def iK (f : SE) : SM (List PV) := f.bind fun x => fun ρ => match x with
  | .dct ks xs => some (.ok (ks.map keyV), ρ)
  | _ => none
theorem ji_keys {tg : Expr} (h : JE X S φ W e f) : JI X S φ W tg e (iK f) := (pi_keys h).imp fun σ H R ⟨ρ, F, r, s, e1, o⟩ => by
  obtain ⟨r1, e2, o2⟩ := OG.seq e1 o
  refine ⟨ρ, F, r1, s, e2, o2.imp fun x ρ1 F1 H1 s1 m1 ⟨r2, e3, o3⟩ v hv => ?_⟩
  cases x with
  | dct ks xs =>
    cases e3
    obtain ⟨p, od, vs, rfl, h1, h2, h3⟩ := hv
    exact ⟨p, od, rfl, .inl ⟨_, s1.same _ _ h1, o3 F1 H1 s1 (Same.refl _) _ (wk_keys h1 h2)⟩⟩
  | _ => cases e3
end
end Y


namespace Y
open PySem PySem.Spec L2
open Classical in
noncomputable def dcLc (ok : Rh → Prop) (gm : GM) (tst : SM Bool) (fk fe : SE) (vs : List Nat) : List PV → List Key × List PV → Rh → Option ((List Key × List PV) × Rh)
  | [], acc, ρ => if ok ρ ∧ unAll vs ρ = true then some (acc, ρ) else none
  | x :: xs, acc, ρ => if ok ρ ∧ unAll vs ρ = true then (match gm x ρ with
    | none => none
    | some ρ1 => (match tst ρ1 with
      | some (.ok true, ρ2) => (match fk ρ2 with
        | some (.ok k, ρ3) => (match fe ρ3 with
          | some (.ok y, ρ4) => (match keyP k with
            | some k => if acc.2.length < 16777216 then dcLc ok gm tst fk fe vs xs (putX k y acc.1 acc.2) (wipeR vs ρ4) else none
            | none => none)
          | _ => none)
        | _ => none)
      | some (.ok false, ρ2) => dcLc ok gm tst fk fe vs xs acc (wipeR vs ρ2)
      | _ => none)) else none
noncomputable def dcM {T : Type} (it : SM T) (vals : T → List PV) (okf : T → Rh → Prop) (gm : GM) (tst : SM Bool) (fk fe : SE) (vs : List Nat) : SE := it.bind fun t => fun ρ => match dcLc (okf t) gm tst fk fe vs (vals t) ([], []) (wipeR vs ρ) with
  | some (acc, ρ') => some (.ok (.dct acc.1 acc.2), ρ')
  | none => none
section
variable {X : Cx} {S : Sg} {φ : Fr} {W : WX} {f : SS} {sts : List Stmt} {pos : Pos}
theorem dc_red {T : Type} {it : SM T} {vals : T → List PV} {okf : T → Rh → Prop} {sgf : L2.St → L2.St → Prop} {gm : GM} {is vs : List Nat} {tst : SM Bool} {fk fe : SE} (hsg : ∀ σ, sgf σ (wipe σ vs)) (his : ∀ i ∈ is, i ∈ vs) {σ : L2.St} {H : Hp} {Q : VK}
    (h : tN S φ W (dcM it vals okf gm tst fk fe vs) σ H Q) : tDc (wiG S φ W it vals okf sgf) (xG S gm is) (xT S tst) (xJ S fk) (xJ S fe) vs σ H Q := by
  obtain ⟨ρ, F, r, s, e1, o⟩ := h
  obtain ⟨r1, e2, o2⟩ := OG.seq e1 o
  refine ⟨ρ, F, r1, s, e2, o2.imp fun t ρ1 F1 H1 s1 m1 ⟨r2, e3, o3⟩ J wk => ?_⟩
  dsimp only at e3
  generalize vals t = xs at wk e3
  generalize okf t = okp at wk e3
  intro D hD
  cases q0 : dcLc okp gm tst fk fe vs xs ([], []) (wipeR vs ρ1) with
  | none => rw [q0] at e3; cases e3
  | some z0 =>
  rw [q0] at e3
  cases e3
  obtain ⟨accE, ρE⟩ := z0
  have o3 : ∀ F' H', Stt S φ ρE F' σ H' → Same F1 F' → ∀ p, Nw φ ρE F' σ p → Top S F' H' p (.dct accE.1 accE.2) → Q (.ref p) H' := o3
  obtain ⟨sD, nwD⟩ := s1.newOwn (o := .dK []) hD
  have noD : D ∉ φ.own := fun z => s1.k3 D z hD
  have fD : φ.F D = none := by
    cases q : φ.F D with
    | none => rfl
    | some u => have := s1.same _ _ (s1.fF _ _ q); rw [hD] at this; cases this
  have cg : ∀ {ρ : Rh} {F' H' : Hp}, unAll vs ρ = true → Stt S φ ρ F' (wipe σ vs) H' → Stt S φ ρ F' σ H' := fun {ρ F' H'} u st => st.congr (by have := st.len; rw [wipe_length] at this; exact this) fun i t a b => (wipe_ne (unAll_ne u a b)).symm
  let I : Nat → Hp → Prop := fun i H => i ≤ xs.length ∧ ∃ ρ F acc av, Stt S φ ρ F (wipe σ vs) H ∧ Same F1 F ∧ Nw φ ρ F (wipe σ vs) D ∧ H D = some (.dK (acc.1.zip av)) ∧ acc.1.length = av.length ∧ Reps S F acc.2 av ∧ dcLc okp gm tst fk fe vs (xs.drop i) acc ρ = some (accE, ρE)
  have hun : ∀ {ys : List PV} {acc : List Key × List PV} {ρ : Rh} {z : (List Key × List PV) × Rh}, dcLc okp gm tst fk fe vs ys acc ρ = some z → okp ρ ∧ unAll vs ρ = true := fun {ys acc ρ z} h => by
    cases ys with
    | nil => unfold dcLc at h; split at h <;> first | assumption | cases h
    | cons y ys => unfold dcLc at h; split at h <;> first | assumption | cases h
  refine ⟨fun i m H => m = xs.length - i ∧ I i H, ⟨xs.length, by simp, Nat.zero_le _, wipeR vs ρ1, F1, ([], []), [], ?_, Same.refl _, ?_, upd_same, rfl, rfl, q0⟩, ?_⟩
  · exact (Stt.wipeR vs sD).congr (by rw [wipe_length]; exact (Stt.wipeR vs sD).len) fun i t a b => wipe_ne (unAll_ne (hun q0).2 a b)
  · have nw2 : Nw φ (wipeR vs ρ1) F1 σ D := (Stt.wipeR vs s1).newOwn (o := .dK []) hD |>.2
    exact nw2.congr fun i t a b => wipe_ne (unAll_ne (hun q0).2 a b)
  rintro i m H ⟨rfl, hi2, ρ, F, acc, av, st, sm, nw, hDv, la, ra, el⟩
  by_cases hlt : i < xs.length
  · refine .inr ⟨wk.go i ρ F _ H st sm (hsg σ) (hun el).1 hlt, I (i + 1), fun H' h => ⟨xs.length - (i + 1), by omega, rfl, h⟩, fun v H' y => ?_⟩
    obtain ⟨x, F', hx, gw, rx⟩ := wk.yld i ρ F _ H v H' st sm (hsg σ) (hun el).1 hlt y
    have ex : xs.drop i = x :: xs.drop (i + 1) := by
      obtain ⟨h1, h2⟩ := List.getElem?_eq_some_iff.mp hx
      rw [List.drop_eq_getElem_cons h1, h2]
    rw [ex] at el
    have hu := hun el
    unfold dcLc at el
    rw [if_pos hu] at el
    have st2 := st.grow gw
    have hD2 : H' D = some (.dK (acc.1.zip av)) := gw.h _ _ hDv
    have nw2 : Nw φ ρ F' (wipe σ vs) D := ⟨gw.o D (by rw [hDv]; simp) nw.f, nw.h, nw.no⟩
    cases q1 : gm x ρ with
    | none => rw [q1] at el; cases el
    | some ρ1' =>
    rw [q1] at el
    dsimp only at el
    refine ⟨φ.plus D (.dK (acc.1.zip av)), x, ρ, F', ρ1', st2.into nw2 hD2, rx, q1, fun σ1 st3 ch => ⟨wipe_chg his ch, ?_⟩⟩
    have hw := wipe_chg his ch
    cases q2 : tst ρ1' with
    | none => rw [q2] at el; cases el
    | some z2 =>
    obtain ⟨b, ρ2⟩ := z2
    rw [q2] at el
    cases b with
    | ex c => cases el
    | ok b =>
    have turn : ∀ {ρ4 : Rh} {F4 H4 : Hp} {acc' : List Key × List PV} {av' : List V}, Stt S (φ.plus D (.dK (acc.1.zip av))) ρ4 F4 σ1 H4 → Same F' F4 → acc'.1.length = av'.length → Reps S F4 acc'.2 av' → dcLc okp gm tst fk fe vs (xs.drop (i + 1)) acc' (wipeR vs ρ4) = some (accE, ρE) → H4 D = some (.dK (acc.1.zip av)) ∧ I (i + 1) (upd H4 D (.dK (acc'.1.zip av'))) := fun {ρ4 F4 H4 acc' av'} st4 m4 la4 ra4 el4 => by
      have out := Stt.wipeR vs (st4.outof nw.h)
      obtain ⟨k1, k2⟩ := Stt.kept fD nw.h noD st4
      have k3 : Nw φ (wipeR vs ρ4) F4 σ1 D := ((Stt.wipeR vs st4).kept fD nw.h noD).2
      have cg2 : ∀ (i : Nat) (t : Sl), (wipeR vs ρ4)[i]? = some t → t ≠ .un → (wipe σ vs)[i]? = σ1[i]? := fun i t a b => by
        rw [← hw]
        exact wipe_ne (unAll_ne (hun el4).2 a b)
      have out2 : Stt S φ (wipeR vs ρ4) F4 (wipe σ vs) H4 := out.congr (by have := out.len; rw [← hw, wipe_length]; exact this) cg2
      have k4 := k3.congr cg2
      exact ⟨k1, hlt, _, F4, acc', av', out2.poke k4, (sm.trans gw.f).trans m4, k4, upd_same, la4, ra4, el4⟩
    refine ⟨φ.plus D (.dK (acc.1.zip av)), ρ1', F', _, st3, q2, fun F3 H3 st4 m3 => ?_⟩
    cases b with
    | false =>
      rw [if_neg (by simp)]
      obtain ⟨k1, k2⟩ := turn st4 m3 la (Reps.mono (gw.f.trans m3) _ _ ra) el
      rw [upd_self k1] at k2
      exact k2
    | true =>
      rw [if_pos rfl]
      dsimp only at el
      cases q3 : fk ρ2 with
      | none => rw [q3] at el; cases el
      | some z3 =>
      obtain ⟨b3, ρ3⟩ := z3
      rw [q3] at el
      cases b3 with
      | ex c => cases el
      | ok yk =>
      dsimp only at el
      refine ⟨φ.plus D (.dK (acc.1.zip av)), ρ2, F3, _, st4, q3, fun F4 H4 st5 m5 w rw_ => ?_⟩
      cases q4 : fe ρ3 with
      | none => rw [q4] at el; cases el
      | some z4 =>
      obtain ⟨b4, ρ4⟩ := z4
      rw [q4] at el
      cases b4 with
      | ex c => cases el
      | ok yv =>
      dsimp only at el
      refine ⟨φ.plus D (.dK (acc.1.zip av)), ρ3, F4, _, st5, q4, fun F5 H5 st6 m6 u ru => ?_⟩
      cases q5 : keyP yk with
      | none => rw [q5] at el; cases el
      | some k =>
      rw [q5] at el
      dsimp only at el
      split at el
      case isFalse => cases el
      case isTrue hlen =>
      obtain ⟨ws, e1, e2, e3⟩ := putX_rep k ru (Reps.mono (((gw.f.trans m3).trans m5).trans m6) _ _ ra) la
      obtain ⟨k1, k2⟩ := turn st6 ((m3.trans m5).trans m6) e3 e2 el
      refine ⟨_, k, keyP_rep q5 rw_, k1, ?_, ?_⟩
      · rw [sizeLine_eq, List.length_zip, la, Nat.min_self, ← ra.length]
        exact hlen
      · rw [e1]
        exact k2
  · have ei : i = xs.length := by omega
    subst ei
    rw [List.drop_length] at el
    have hu := hun el
    unfold dcLc at el
    rw [if_pos hu] at el
    cases el
    refine .inl ⟨wk.stop _ _ F _ H st sm (hsg σ) hu.1 (Nat.le_refl _), ?_⟩
    exact o3 F H (cg hu.2 st) sm D (nw.congr fun i t a b => (wipe_ne (unAll_ne hu.2 a b)).symm) ⟨av, hDv, la, ra⟩
variable {T : Type} {it : SM T} {vals : T → List PV} {okf : T → Rh → Prop} {sgf : L2.St → L2.St → Prop} {kx elt tg iter : Expr} {ifs : List Expr} {scope : Scope} {own : List (Str × Nat)} {gm : GM} {is : List Nat} {tst : SM Bool} {fk fe : SE}
theorem jn_dcG (hc : X.calm = true) (hN : X.N.Nodup)
    (hi : PI X tg iter (wiG S φ W it vals okf sgf)) (hsg : ∀ σ, sgf σ (wipe σ (own.map (·.2)))) (ok : BlkOk X.N X.env.scope scope own)
    (hg : ∀ (φ' : Fr) (s : Shared) (H : Hp) (C : Addr) (cl : List (Str × Addr)) (fp : List Addr), JG (X.blk s H scope (compEnvC scope cl C X.env) fp) S φ' tg gm is)
    (ht : ∀ (s : Shared) (H : Hp) (C : Addr) (cl : List (Str × Addr)) (fp : List Addr), PTs (X.blk s H scope (compEnvC scope cl C X.env) fp) ifs (xT S tst))
    (hk : ∀ (φ' : Fr) (s : Shared) (H : Hp) (C : Addr) (cl : List (Str × Addr)) (fp : List Addr), JE (X.blk s H scope (compEnvC scope cl C X.env) fp) S φ' W0 kx fk)
    (he : ∀ (φ' : Fr) (s : Shared) (H : Hp) (C : Addr) (cl : List (Str × Addr)) (fp : List Addr), JE (X.blk s H scope (compEnvC scope cl C X.env) fp) S φ' W0 elt fe)
    (his : ∀ i ∈ is, i ∈ own.map (·.2)) (hs : ∀ x, foldedSetIterable iter X.env x = pure x := by intro _; rfl) :
    JN X S φ W (.DictComp kx elt [⟨tg, iter, ifs, 0⟩] scope pos) (dcM it vals okf gm tst fk fe (own.map (·.2))) :=
  (pe_dc hc hN hi ok (fun s H C cl fp => PG.all fun φ' => hg φ' s H C cl fp) ht (fun s H C cl fp => PE.all fun φ' => hk φ' s H C cl fp) (fun s H C cl fp => PE.all fun φ' => he φ' s H C cl fp) hs).imp fun σ H Q h => dc_red hsg his h
end
end Y


namespace Y
open PySem PySem.Spec L2 PyProof.Rows
def sumO (tabR tabA : Cid → Option Fn) : PV → List PV → Option PV
  | acc, [] => some acc
  | .int i, .obj c ys :: xs => (match tabR c with
    | some g => (match pureG g [.obj c ys, .int i] with
      | some (.obj c2 us) => sumO tabR tabA (.obj c2 us) xs
      | _ => none)
    | none => none)
  | .obj c zs, .obj d ys :: xs => if d = c then (match tabA c with
    | some g => (match pureG g [.obj c zs, .obj d ys] with
      | some (.obj c2 us) => sumO tabR tabA (.obj c2 us) xs
      | _ => none)
    | none => none) else none
  | _, _ => none
section
variable {X : Cx} {S : Sg} {pins : List (Addr × Obj)} {σ : L2.St}
def bSumO (tabR tabA : Cid → Option Fn) : List PV → Option PV
  | [.lst xs] => sumO tabR tabA (.int 0) xs
  | _ => none
def rSumO (S : Sg) (tabR tabA : Cid → Option Fn) : List V → Hp → VK → Prop := fun vs H Q => ∃ (F : Hp) (a : Addr) (xs : List PV) (ws : List V) (z : PV), vs = [V.ref a] ∧ Same F H ∧ SqL S.K H a ws ∧ Reps S F xs ws ∧ sumO tabR tabA (.int 0) xs = some z ∧ ∀ u F' H', Gw F H F' H' → Rep S F' z u → Q u H'
end
end Y


namespace Y
open PySem PySem.Spec L2
section
variable {X : Cx} {S : Sg} {φ : Fr} {W : WX} {e a b : Expr} {fa fb : SE} {fp : SM (List PV)} {pos p : Pos} {F : Hp}
def iRv (fp : SM (List PV)) : SM (List PV) := fp.bind fun xs => fun ρ => match xs with
  | [.lst ys] => some (.ok ys.reverse, ρ)
  | _ => none
def pairP (p : PV × PV) : PV := .tup [p.1, p.2]
def iZp (fp : SM (List PV)) : SM (List PV) := fp.bind fun xs => fun ρ => match xs with
  | [.lst ys, .lst zs] => some (.ok ((ys.zip zs).map pairP), ρ)
  | _ => none
def enumP (xs : List PV) : List PV := xs.zipIdx.map fun p => .tup [.int (p.2 : Int), p.1]
def iEn (fp : SM (List PV)) : SM (List PV) := fp.bind fun xs => fun ρ => match xs with
  | [.lst ys] => some (.ok (enumP ys), ρ)
  | _ => none
def rgS (a b : Int) : List PV := (List.range (b - a).toNat).map fun i : Nat => PV.int (a + (i : Int))
def LrB (k : Int) : Prop := -1000000 ≤ k ∧ k ≤ 1000000
open Classical in
noncomputable def eLr1 (fa : SE) : SE := fa.bind fun x => fun ρ => match x with
  | .int k => if LrB k then some (.ok (.lst (rgS 0 k)), ρ) else none
  | _ => none
end
end Y


namespace Y
open PySem PySem.Spec L2
open PyProof.Rows (envOfC)
/-- what such an __iter__ promises -/
def spIter (K : PySem.W.Frag) (C : Addr) (f : Str) (n : Nat) : Sp := fun vs H Q _ => ∃ a dx fs l xs, vs = [.ref a] ∧ H a = some (.ins C dx fs) ∧ fs.lookup f = some (.ref l) ∧ SqL K H l xs ∧ ∀ it, H it = none → n ≤ it → Q (.ref it) (upd H it (ItO l it 0))
def tItr (K : PySem.W.Frag) (C : Addr) (f : Str) (n : Nat) : TS := fun D σ H => ∃ a dx fs l xs, σ[0]? = some (some (.ref a)) ∧ H a = some (.ins C dx fs) ∧ fs.lookup f = some (.ref l) ∧ SqL K H l xs ∧ ∀ it, H it = none → n ≤ it → D.rt (.ref it) (upd H it (ItO l it 0))
theorem iter_pss {X : Cx} {C : Addr} {x f : Str} {p1 p2 p3 p4 p5 : Pos} (cls : Cls X.K C) (nF : NoAttr X.K C f) (hm : X.mg "iter" = none) (hg : Gl X "iter" := by rfl) (hN : X.N[0]? = some x := by rfl) (hv : Vis X.env.scope x := by first | exact Or.inl rfl | exact Or.inr (Or.inl rfl) | exact Or.inr (Or.inr rfl))
    (hd : (x == ("__debug__" : Str)) = false := by decide) (hcd : (x == ("__classdict__" : Str)) = false := by decide) (hbt : bootBuiltins "iter" = some (.builtin "iter") := by decide +kernel)
    (hb : attributeBase (.Name x p2) f X.env (eval (.Name x p2) X.env) = eval (.Name x p2) X.env := by rfl)
    (he : starEach [.Attribute (.Name x p2) f p3] X.env = (false, eval (.Attribute (.Name x p2) f p3) X.env) :: starEach [] X.env := by rfl) (hpl : (backTo p4 (starEach [] X.env)).any (·.1) = false := by rfl) :
    PSs X [.Return (some (.Call (.Name "iter" p1) [.Attribute (.Name x p2) f p3] [] p4)) p5] (tItr X.K C f X.s_0.heap.objs.size) :=
  (pss_one (ps_ret (pe_callB ItX.call_iterN hg hm hbt (pa_cons (pe_fld (pe_var hN hv hd hcd) hb) pa_nil he) (by decide) (by decide) he hpl))).imp fun D σ H ⟨a, dx, fs, l, xs, h1, h2, h3, h4, h5⟩ =>
    ⟨_, h1, a, C, dx, fs, _, rfl, h2, cls, nF, h3, l, xs, rfl, h4, h5⟩
/-- a promise that knows the heap's size -/
structure FnOkN (P : Program) (w : World) (K : PySem.W.Frag) (mg : Str → Option Value) (base : Heap) (CX : CXT) (k : Nat) (f : Addr) (fd : FuncData) (ps : List Str) (sp : Nat → Sp) : Prop where
  len : ∀ n vs H Q E, sp n vs H Q E → vs.length = ps.length
  run : ∀ (A : Around) (outer : List PySem.Env) (s : Shared) (H : Hp) (args : Args) (us : List Value) (vs : List V) (Q : VK) (E : XK), Room k A → Env0 P w K mg base A outer s H → BindsTo s fd args (ps.zip us) → Vals vs us → sp s.heap.objs.size vs H Q E →
    codeAny (model P w) A (.call (.ref f) args) (CR CX outer P w H s Q E) s
theorem fn_ofN {CX : CXT} {P : Program} {w : World} {K : PySem.W.Frag} {mg : Str → Option Value} {base : Heap} {k : Nat} {f : Addr} {name qual : Str} {params : Arguments} {body : List Stmt} {scope : Scope} {dV kV doc pm cdv ct oc : Value} {an od : Option Addr}
    {osl : Array (Option Value)} {N ps : List Str} {sp : Nat → Sp} (lk : K.lookup f = some ⟨oc, od, .func (PySem.W.fnOf name qual params body scope dV kV doc pm an cdv ct), osl⟩) (hcd : PySem.W.codeIn K cdv qual = true) (S : FnScope N ps scope)
    (len : ∀ n vs H Q E, sp n vs H Q E → vs.length = ps.length)
    (hbody : ∀ (A : Around) (outer : List PySem.Env) (s : Shared) (H : Hp) (vs : List V) (Q : VK) (E : XK), Room k (A.deeper (envOfC qual scope s.heap.objs.size f cdv)) → sp s.heap.objs.size vs H Q E →
      ∃ t, PSs (cxOf CX P w K mg base N qual scope f cdv A outer s H E) body t ∧ t { nx := fun _ H' => Q .non H', rt := Q } (start N vs) H) :
    FnOkN P w K mg base CX (k + 1) f (PySem.W.fnOf name qual params body scope dV kV doc pm an cdv ct) ps sp := by
  refine ⟨len, fun A outer s H args us vs Q E hr e0 hb r hsp => ?_⟩
  have hl := len _ _ _ _ _ hsp
  have KX : K.In s.heap := e0.mod.kin.keeps fun b o e => (e0.bs b o e).1
  have lim : s.heap.NoLimit := e0.mod.nolimit.keeps fun b o e => (e0.bs b o e).1
  have hkind : ∀ y ∈ ps.zip us, scope.names.lookup y.1 = some .local ∨ (scope.names.lookup y.1 = some .cell ∧ ((cellsFrom (s.heap.objs.size + 1) scope.names []).lookup y.1).isSome = true) := fun ⟨n, v⟩ hy => by
    rcases S.par n (List.of_mem_zip hy).1 with q | q
    · exact .inl q
    · exact .inr ⟨q, PySem.W.cellsFrom_some _ _ _ (.inl q)⟩
  refine codeAny_call_function hr.depth (KX _ _ lk) rfl S.co S.gen rfl (PySem.W.codeRec_of KX hcd) (hb _ _ _ _ ?_)
  refine wpAny_newFunctionEnv_cells S.kind hkind fun env he s1 x => ?_
  subst he
  refine ⟨lim.keeps x.toInCall.keep, codeAny_func ?_⟩
  obtain ⟨t, ht, hq⟩ := hbody A outer s H vs Q E (hr.deeper _) hsp
  have I : Inv (cxOf CX P w K mg base N qual scope f cdv A outer s H E) [] (start N vs) H s1 := inv_start S hr.hd e0 hl r x
  refine wpAny_mono (ht.run [] s1 (start N vs) H _ I hq) (fun fl s' hs => ?_) fun e s' hs => hs
  have fin : ∀ {σ' : L2.St} {H' : Hp} {v : V} {u : Value}, Inv (cxOf CX P w K mg base N qual scope f cdv A outer s H E) [] σ' H' s' → RelV v u → Q v H' → CE outer P w H s Q u s' :=
    fun {σ' H' v u} J rv q => ⟨v, H', J.os, J.bare, J.base, J.hok, rv, q⟩
  cases fl with
  | ret u =>
    obtain ⟨v, σ', H', J, rv, q⟩ := hs
    exact fin J rv q
  | next =>
    obtain ⟨σ', H', J, q⟩ := hs
    exact fin (v := V.non) (u := Value.none) J rfl q
  | brk =>
    obtain ⟨_, _, _, q⟩ := hs
    exact False.elim q
  | cont =>
    obtain ⟨_, _, _, q⟩ := hs
    exact False.elim q
/-- such a def that may be called -/
structure DnI (P : Program) (w : World) (S : Sg) (mg : Str → Option Value) (base : Heap) (k : Nat) (g C : Addr) (f : Str) : Prop where
  ex : ∃ (fd : FuncData) (ps : List Str), FnOkN P w S.K mg base (L2.CX P w) k g fd ps (spIter S.K C f) ∧ Binds S.K fd ps []
theorem dn_iter {P : Program} {w : World} {S : Sg} {mg : Str → Option Value} {base : Heap} {k : Nat} {N ps : List Str} {d : Df} {C : Addr} {f : Str} (Fd : ∃ fd, DfD S.K d fd) (hd : d.dfl = []) (Sc : FnScope N ps (defScope d.st)) (hp : ps.length = 1)
    (hb : ∀ (kV doc pm : Value) (an : Option Addr) (cdv ct : Value) (us : List Value), us.length = ps.length → bindArgs (PySem.W.fnOf d.name d.qual (defArgs d.st) (defBody d.st) (defScope d.st) .none kV doc pm an cdv ct) ⟨us, []⟩ = pure (ps.zip us))
    (h : ∀ (cdv : Value) (A : Around) (outer : List PySem.Env) (s : Shared) (H : Hp) (E : XK), PSs (cxOf (L2.CX P w) P w S.K mg base N d.qual (defScope d.st) (d.wh.ad S.K) cdv A outer s H E) (defBody d.st) (tItr S.K C f s.heap.objs.size)) : DnI P w S mg base (k + 1) (d.wh.ad S.K) C f := by
  obtain ⟨fd, Fd⟩ := Fd
  have Fd' : FunD S.K d.name d.qual (defArgs d.st) (defBody d.st) (defScope d.st) [] (d.kwd.map fun q => (q.1, q.2.v S.K)) (d.wh.ad S.K) fd := by
    have q := Fd
    unfold DfD at q
    rw [hd] at q
    exact q
  refine ⟨fd, ps, ?_, Fd'.bindsN hb⟩
  obtain ⟨oc, od, dV, kV, doc, pm, an, cdv, ct, osl, rfl, lk, hcd, _, _⟩ := Fd.ex
  refine fn_ofN lk hcd Sc (fun n vs H Q E hs => ?_) (fun A outer s H vs Q E hr hs => ?_)
  · obtain ⟨a, dx, fs, l, xs, rfl, _⟩ := hs
    exact hp.symm
  · obtain ⟨a, dx, fs, l, xs, rfl, h2, h3, h4, h5⟩ := hs
    exact ⟨_, h cdv A outer s H E, a, dx, fs, l, xs, rfl, h2, h3, h4, h5⟩
/-- a class whose instances are walked so, here -/
structure ItrOk (X : Cx) (S : Sg) (c : Cid) (j : Nat) : Prop where
  ex : ∃ (f : Str) (g : Addr) (k : Nat) (fd : FuncData) (ps : List Str), (flds c)[j]? = some f ∧ Meth S.K (S.ca c) "__iter__" g ∧ FnOkN X.prog X.w X.K X.mg X.base (L2.CX X.prog X.w) k g fd ps (spIter S.K (S.ca c) f) ∧ Binds X.K fd ps [] ∧ Room (k + 1) X.A
section
variable {X : Cx} {S : Sg} {φ : Fr} {W : WX} {e : Expr} {fe : SE}
/-- the iterator has come -/
theorem run_iter {C : Addr} {A : Around} {Q : Value → Shared → Prop} {E : Value → Shared → Prop} {pins : List (Addr × Obj)} {σ : L2.St} {H : Hp} {s : Shared} {a dx l g : Addr} {k : Nat} {fd : FuncData} {ps : List Str} {f : Str} {fs : List (Str × V)} {xs : List V} (sb : Sub X k A)
    (FI : FnOkN X.prog X.w X.K X.mg X.base (L2.CX X.prog X.w) k g fd ps (spIter X.K C f)) (bI : Binds X.K fd ps []) (hm : Meth X.K C "__iter__" g) (I : Inv X pins σ H s) (ha : H a = some (.ins C dx fs)) (hl : fs.lookup f = some (.ref l)) (hx : SqL X.K H l xs)
    (q : ∀ it s', Inv X pins σ (upd H it (ItO l it 0)) s' → H it = none → X.s_0.heap.objs.size ≤ it → s.heap.objs.size ≤ it → Q (.ref it) s') : wpAny (model X.prog X.w) A (pyIter (.ref a)) Q E s := by
  obtain ⟨od, J⟩ := inst_at I ha
  obtain ⟨m, hF⟩ := I.fr
  refine PySem.W.owit_iter hF I.ok.mod.kin J hm.at_ hm.fn ?_
  have hsp : spIter X.K C f s.heap.objs.size [.ref a] H (fun v H' => ∃ it, v = .ref it ∧ H it = none ∧ s.heap.objs.size ≤ it ∧ H' = upd H it (ItO l it 0)) fun _ _ _ => False := ⟨a, dx, fs, l, xs, rfl, ha, hl, hx, fun it hn hge => ⟨it, rfl, hn, hge, rfl⟩⟩
  have hlen := FI.len _ _ _ _ _ hsp
  have env : Env0 X.prog X.w X.K X.mg X.base A X.stack s H := by
    have e := I.env0
    exact ⟨by rw [sb.fr]; exact e.frames, e.mod, e.bs, e.bsz, e.funs, e.frf, e.hok, e.bare⟩
  have b := bI s [.ref a] I.kIn (by simpa using hlen)
  have r2 : Vals [V.ref a] [Value.ref a] := .cons rfl .nil
  refine wpAny_call (codeAny_mono (FI.run A X.stack s H ⟨[.ref a], []⟩ [.ref a] [.ref a] _ _ sb.room env (by simpa using b) r2 hsp) fun rs s' hq => ?_)
  cases rs with
  | error e =>
    obtain ⟨_, _, _, _, _, _, _, _, _, _, _, _, z⟩ := hq
    exact z.elim
  | ok fl =>
    cases fl with
    | next => exact hq.elim
    | brk => exact hq.elim
    | cont => exact hq.elim
    | ret u =>
      obtain ⟨v2, H2, I2, rv, it2, ev, hn2, hge, eH⟩ := I.after hq
      subst ev eH
      obtain rfl : u = Value.ref it2 := rv
      have eo := itO_get I2 upd_same
      show wpAny _ _ (specialOf (.ref it2) "__next__") _ _ _
      exact wpAny_specialOf (T := "list_iterator") ⟨_, eo, rfl⟩ slot_listiter_next.lookup (q it2 s' I2 hn2 (Nat.le_trans I.sz hge) hge)
/-- what is walked: the list in field j -/
def fldL (tab : Cid → Option Nat) : PV → Option (List PV)
  | .obj c xs => (match tab c with
    | some j => (match xs[j]? with
      | some (.lst ys) => if xs.length ≤ (flds c).length then some ys else none
      | _ => none)
    | none => none)
  | _ => none
theorem fldL_of {tab : Cid → Option Nat} {F H : Hp} {x : PV} {ys : List PV} {v : V} (s : Same F H) (r : CtR S F H x v) (e : fldL tab x = some ys) : ∃ c j a dx fs l ws, tab c = some j ∧ v = .ref a ∧ H a = some (.ins (S.ca c) dx fs) ∧ (∀ f, (flds c)[j]? = some f → fs.lookup f = some (.ref l)) ∧ SqL S.K F l ws ∧ Reps S F ys ws := by
  unfold fldL at e
  split at e
  · rename_i c xs
    split at e
    · rename_i j ht
      split at e
      · rename_i zs hj
        split at e
        · cases e
          obtain ⟨a, dx, vs, rfl, ha, hv⟩ : ∃ a dx vs, v = .ref a ∧ H a = some (.ins (S.ca c) dx ((flds c).zip vs)) ∧ Reps S F xs vs := by
            rcases r with ⟨a, dx, vs, h1, h2, h3, h4⟩ | ⟨a, h1, dx, vs, h2, h3, h4⟩
            · exact ⟨a, dx, vs, h1, s _ _ h2, h4⟩
            · exact ⟨a, dx, vs, h1, h2, h4⟩
          obtain ⟨u, hu, l, ws, rfl, h5, h6⟩ := hv.get hj
          exact ⟨c, j, a, dx, _, l, ws, ht, rfl, ha, fun f hf => by rw [lookup_zip (flds_nd c) hf]; exact hu, h5, h6⟩
        · cases e
      · cases e
    · cases e
  · cases e
def iOb (tab : Cid → Option Nat) (f : SE) : SM (List PV) := f.bind fun x => fun ρ => match fldL tab x with
  | some ys => some (.ok ys, ρ)
  | none => none
def tIob (S : Sg) (X : Cx) (tab : Cid → Option Nat) (te : TE) : TI := fun σ H R => te σ H fun v H1 => ∃ c j a dx fs l ws, tab c = some j ∧ v = .ref a ∧ H1 a = some (.ins (S.ca c) dx fs) ∧ (∀ f, (flds c)[j]? = some f → fs.lookup f = some (.ref l)) ∧ SqL X.K H1 l ws ∧ R (Itl X.K l) H1
theorem ext_loop {pins : List (Addr × Obj)} {σ : L2.St} {A1 : Around} {Rs : Result → Shared → Prop} {H : Hp} {it l q : Addr} {vs : List V} (hh : A1.in1.handled = none) (hq : H q = none) (hl : SqL X.K H l vs) (hz : vs.length ≤ sizeLine)
    (hdone : ∀ s, Inv X pins σ (upd H q (.lst vs)) s → Rs (.ok (.ret .none)) s) : ∀ (k i : Nat) (s : Shared), vs.length - i = k → i ≤ vs.length → Inv X pins σ (upd H q (.lst (vs.take i))) s → s.heap.IsListIter it l i → FpOk X pins (upd H q (.lst (vs.take i))) it →
      codeAny (model X.prog X.w) A1 (.builtin "list.extend.loop" ⟨[.ref q, .ref it, .none], []⟩) Rs s := by
  have hlq : l ≠ q ∨ SqL X.K (upd H q (.lst [])) l vs := by
    by_cases e : l = q
    · right
      subst e
      rcases hl with (h | ⟨o, h⟩) | h
      · rw [hq] at h; cases h
      · rw [hq] at h; cases h
      · exact .inr h
    · exact .inl e
  have hl2 : ∀ zs, SqL X.K (upd H q (.lst zs)) l vs := fun zs => by
    rcases hl with h | h
    · left
      have ne : l ≠ q := fun e => by
        subst e
        rcases h with h | ⟨o, h⟩
        · rw [hq] at h; cases h
        · rw [hq] at h; cases h
      rcases h with h | ⟨o, h⟩
      · exact .inl ((upd_ne ne).trans h)
      · exact .inr ⟨o, (upd_ne ne).trans h⟩
    · exact .inr h
  intro k
  induction k with
  | zero =>
    intro i s hk hi I hit hf
    have e : i = vs.length := by omega
    subst e
    rw [List.take_length] at I hf
    refine codeAny_builtin PySem.F.entry_extend_loop ?_
    rw [Around.under_plainId PySem.F.plain_extend_loop _]
    show wpAny _ A1.in1 (pyNext (.ref it) >>= _) _ _ s
    obtain ⟨its, rv, p, _⟩ := I.list (hl2 vs)
    have hlen := rv.length
    obtain ⟨f0, f1, f2, f3, f4, f5⟩ := hf
    refine wpAny_bind (wpAny_pyNext_list_end hh hit p.isList (by simp; omega) fun h' eb => ?_)
    exact wpAny_pure (hdone _ (I.turned (t' := s.toks) (fun b o hb e => eb b o hb e) f0 f1 f3 f4 f5))
  | succ k ih =>
    intro i s hk hi I hit hf
    have hlt : i < vs.length := by omega
    refine codeAny_builtin PySem.F.entry_extend_loop ?_
    rw [Around.under_plainId PySem.F.plain_extend_loop _]
    show wpAny _ A1.in1 (pyNext (.ref it) >>= _) _ _ s
    obtain ⟨its, rv, p, _⟩ := I.list (hl2 (vs.take i))
    obtain ⟨u, hu, ru⟩ := rv.get (List.getElem?_eq_getElem hlt)
    have hf' := hf
    obtain ⟨f0, f1, f2, f3, f4, f5⟩ := hf
    refine wpAny_bind (wpAny_pyNext_list_item hit p.isList (x := u) (by simpa using hu) fun h' hit' sb => ?_)
    have I1 : Inv X pins σ (upd H q (.lst (vs.take i))) { s with heap := h' } := I.turned (t' := s.toks) (fun b o hb e => (sb.2 b hb).trans e) f0 f1 f3 f4 f5
    show wpAny _ A1.in1 (updateSeq q (·.push u) >>= _) _ _ _
    obtain ⟨z, its2, c, r2, hl3, e⟩ := I1.lstM upd_same
    have nq : it ≠ q := fun e => by rw [e, upd_same] at f0; cases f0
    have et : vs.take i ++ [vs[i]] = vs.take (i + 1) := by rw [List.take_succ, List.getElem?_eq_getElem hlt]; rfl
    refine wpAny_bind (wpAny_updateSeq e rfl (wpAny_pure ⟨plainId_quiet PySem.F.plain_extend_loop _, ?_⟩) (by rw [List.size_toArray]; omega) (by show (its2.toArray.push u).size ≤ sizeLine + 1; rw [Array.size_push, List.size_toArray]; omega))
    have I2 := I1.lset (f := (·.push u)) (its' := its2 ++ [u]) (ys := vs.take (i + 1)) (t' := s.toks) upd_same e (by simp) (et ▸ r2.append (.cons ru .nil)) (by rw [List.length_take]; omega)
    rw [upd_upd] at I2
    refine ih (i + 1) _ (by omega) hlt I2 ?_ ?_
    · obtain ⟨o, e1, e2, e3⟩ := hit'
      exact ⟨o, (Heap.get?_update_other _ _ (Ne.symm nq)).trans e1, e2, e3⟩
    · exact ⟨by rw [upd_ne nq] at f0 ⊢; exact f0, hf'.2⟩
/-- neither __len__ nor __length_hint__ -/
structure NoHint (S : Sg) (c : Cid) : Prop where
  nolen : PySem.W.findIn S.K (.ref (S.ca c)) "__len__" = some none
  nohint : PySem.W.findIn S.K (.ref (S.ca c)) "__length_hint__" = some none
theorem hintN {M : Model} {A : Around} {E : Value → Shared → Prop} {Q : Bool → Shared → Prop} {C a : Addr} {s : Shared} {K : PySem.W.Frag} {ox : Obj} {od : Option Obj} (h1 : PySem.W.findIn K (.ref C) "__len__" = some none) (h2 : PySem.W.findIn K (.ref C) "__length_hint__" = some none) (hK : K.In s.heap) (J : PySem.W.InstAt s.heap a ox C od) (h : Q true s) :
    wpAny M A (Builtin.List.listLengthHint (.ref a)) Q E s := by
  unfold Builtin.List.listLengthHint
  refine wpAny_bind (wpAny_bind (J.type.here ((PySem.W.looks_findIn hK h1).here ?_)))
  refine PySem.W.KFB.if_not rfl ?_
  refine PySem.W.KFB.if_not rfl ?_
  refine wpAny_bind (wpAny_bind (J.type.here ((PySem.W.looks_findIn hK h2).here ?_)))
  exact wpAny_pure h
theorem extend_ob {pins : List (Addr × Obj)} {σ : L2.St} {A1 : Around} {Rs : Result → Shared → Prop} {C : Addr} {H : Hp} {s : Shared} {a dx l g q : Addr} {k : Nat} {fd : FuncData} {ps : List Str} {f : Str} {fs : List (Str × V)} {xs : List V} (sb : Sub X k A1.in1) (hh : A1.in1.handled = none)
    (FI : FnOkN X.prog X.w X.K X.mg X.base (L2.CX X.prog X.w) k g fd ps (spIter X.K C f)) (bI : Binds X.K fd ps []) (hm : Meth X.K C "__iter__" g) (n1 : PySem.W.findIn X.K (.ref C) "__len__" = some none) (n2 : PySem.W.findIn X.K (.ref C) "__length_hint__" = some none)
    (I : Inv X pins σ (upd H q (.lst [])) s) (hqn : H q = none) (ha : H a = some (.ins C dx fs)) (hl : fs.lookup f = some (.ref l)) (hx : SqL X.K H l xs) (hz : xs.length ≤ sizeLine)
    (hdone : ∀ s, Inv X pins σ (upd H q (.lst xs)) s → Rs (.ok (.ret .none)) s) :
    wpAny (model X.prog X.w) A1.in1 (Builtin.List.listExtendWith (.ref q) (.ref a) .none)
      (fun fin s' => match fin with | .done f => Rs (.ok f) s' | .again c' => c'.quiet = true ∧ codeAny (model X.prog X.w) A1 c' Rs s') (fun e s' => Rs (.error e) s') s := by
  have hne : q ≠ a := fun e => by rw [e, ha] at hqn; cases hqn
  have ha2 : upd H q (.lst []) a = some (.ins C dx fs) := by rw [upd_ne (Ne.symm hne)]; exact ha
  have hl2 : SqL X.K (upd H q (.lst [])) l xs := by
    rcases hx with h | h
    · left
      have ne : l ≠ q := fun e => by
        subst e
        rcases h with h | ⟨o, h⟩
        · rw [hqn] at h; cases h
        · rw [hqn] at h; cases h
      rcases h with h | ⟨o, h⟩
      · exact .inl ((upd_ne ne).trans h)
      · exact .inr ⟨o, (upd_ne ne).trans h⟩
    · exact .inr h
  obtain ⟨mA, J, _⟩ := ins_get I.hok ha2
  obtain ⟨od, J, _⟩ := J.look
  unfold Builtin.List.listExtendWith
  refine wpAny_bind (J.type.here ?_)
  have h1 : Builtin.List.listSameRef (.ref q) (.ref a) = false := by simp [Builtin.List.listSameRef, hne]
  have h2 : (Value.ref C == Value.type "list") = false := rfl
  have h3 : (Value.ref C == Value.type "tuple") = false := rfl
  simp only [h1, h2, h3, Bool.or_false, Bool.false_eq_true, if_false]
  refine wpAny_bind (run_iter sb FI bI hm I ha2 hl hl2 fun it s' I' hn g1 g2 => ?_)
  have ha3 : upd (upd H q (.lst [])) it (ItO l it 0) a = some (.ins C dx fs) := by rw [upd_ne (fun e => by rw [← e, ha2] at hn; cases hn)]; exact ha2
  obtain ⟨mA', J', _⟩ := ins_get I'.hok ha3
  obtain ⟨od', J', _⟩ := J'.look
  have eo := itO_get I' upd_same
  have st : s'.heap.IsListIter it l 0 := ⟨_, eo, rfl, rfl⟩
  have eH : ItX.dropH (upd (upd H q (.lst [])) it (ItO l it 0)) it = upd H q (.lst []) := ItX.dropH_upd hn
  have hi := (upd_same : upd (upd H q (.lst [])) it (ItO l it 0) it = _)
  unfold ItO at hi
  have I3 := ItX.inv_drop I' hi
  rw [eH] at I3
  have fI := ItX.inv_fp I' upd_same g1
  rw [eH] at fI
  have nq : it ≠ q := fun e => by rw [e, upd_same] at hn; cases hn
  refine wpAny_bind (wpAny_holding (hintN n1 n2 I'.kIn J' ?_))
  have hloop : ∀ s2, Inv X pins σ (upd H q (.lst [])) s2 → s2.heap.IsListIter it l 0 → codeAny (model X.prog X.w) A1 (.builtin "list.extend.loop" ⟨[.ref q, .ref it, .none], []⟩) Rs s2 := fun s2 J2 st2 =>
    ext_loop hh hqn hx hz hdone xs.length 0 s2 (by omega) (Nat.zero_le _) (by simpa using J2) st2 (by simpa using fI)
  obtain ⟨z, its, c, r3, hl3, e3⟩ := I3.lstM upd_same
  cases r3
  refine wpAny_ite_split (fun _ => ?_) (fun _ => wpAny_pure ⟨plainId_quiet PySem.F.plain_extend_loop _, hloop s' I3 st⟩)
  refine wpAny_bind (wpAny_rule ?_)
  refine wpAny_bind ?_
  show wpAny _ _ (updateSeq q (·.push .none) >>= fun _ => updateSeq q (·.pop)) _ _ _
  refine wpAny_bind (wpAny_updateSeq e3 rfl ?_)
  have I2 := I3.lset (f := (·.push Value.none)) (its' := [Value.none]) (ys := [.non]) (t' := s'.toks) upd_same e3 (by simp) (.cons rfl .nil) (by rw [List.length_singleton, sizeLine_eq]; decide)
  obtain ⟨z4, its4, k4, r4, hl4, e4⟩ := I2.lstM upd_same
  obtain ⟨u4, rfl, ru4⟩ := r4.one
  refine wpAny_updateSeq e4 rfl ?_ (by show 1 ≤ sizeLine; rw [sizeLine_eq]; decide) (by show 0 ≤ sizeLine + 1; exact Nat.zero_le _)
  refine wpAny_pure ⟨plainId_quiet PySem.F.plain_extend_loop _, hloop _ ?_ ?_⟩
  · have I4 := I2.lset (f := (·.pop)) (its := [u4]) (its' := []) (ys := []) (t' := s'.toks) upd_same e4 (by rfl) .nil (Nat.zero_le _)
    rw [upd_upd, upd_upd] at I4
    exact I4
  · obtain ⟨o, e1, e2, e3⟩ := st
    exact ⟨o, (Heap.get?_update_other _ _ (Ne.symm nq)).trans ((Heap.get?_update_other _ _ (Ne.symm nq)).trans e1), e2, e3⟩
def rLob (S : Sg) (X : Cx) (tab : Cid → Option Nat) : List V → Hp → VK → Prop := fun vs H Q => ∃ c j a dx fs l ws, tab c = some j ∧ vs = [.ref a] ∧ H a = some (.ins (S.ca c) dx fs) ∧ (∀ f, (flds c)[j]? = some f → fs.lookup f = some (.ref l)) ∧ SqL X.K H l ws ∧ ws.length ≤ sizeLine ∧
  ∀ q, H q = none → Q (.ref q) (upd H q (.lst ws))
/-- .. in a call one deeper -/
structure ItrOk2 (X : Cx) (S : Sg) (c : Cid) (j : Nat) : Prop where
  ex : ∃ (f : Str) (g : Addr) (k : Nat) (fd : FuncData) (ps : List Str), (flds c)[j]? = some f ∧ Meth S.K (S.ca c) "__iter__" g ∧ FnOkN X.prog X.w X.K X.mg X.base (L2.CX X.prog X.w) k g fd ps (spIter S.K (S.ca c) f) ∧ Binds X.K fd ps [] ∧ Room (k + 2) X.A
  nh : NoHint S c
theorem call_listOb {tab : Cid → Option Nat} (hK : X.K = S.K) (hc : X.calm = true) (h : ∀ c j, tab c = some j → ItrOk2 X S c j) : CallR X (.type "list") (rLob S X tab) := by
  rintro pins s σ H vs us Q I rv ⟨c, j, a, dx, fs, l, ws, ht, rfl, ha, hl, hw, hz, hq⟩
  obtain ⟨u, rfl, ru⟩ := vals1 rv
  obtain rfl : u = Value.ref a := ru
  obtain ⟨⟨f, g, k, fd, ps, hf, hm, FI, bI, hr⟩, n1, n2⟩ := h c j ht
  rw [← hK] at hm FI n1 n2
  have sb : Sub X k X.A.in1.in1 := Sub.in1 (Sub.in1 (⟨hr, rfl⟩ : Sub X (k + 2) X.A))
  refine callType_codes (Q₁ := fun obj s₁ => obj = .ref s.heap.objs.size ∧ s₁ = { s with heap := s.heap.push { cls := .type "list", data := .seq #[] } }) PySem.F.called_list (PySem.F.typeCall_list_1 _) PySem.F.entry_list_init
    (PySem.code_list_new _ ⟨rfl, rfl⟩) fun obj s₁ h₁ => ?_
  obtain ⟨rfl, rfl⟩ := h₁
  have hS : (s.heap.push { cls := .type "list", data := .seq #[] }).get? s.heap.objs.size = some { cls := .type "list", data := .seq #[] } := Heap.get?_push_size _ rfl
  refine ⟨⟨_, hS, rfl⟩, PySem.F.args_list_init_2 _ _, ?_⟩
  have fr : H s.heap.objs.size = none := I.hok.fresh (Nat.le_refl _)
  have I1 : Inv X pins σ (upd H s.heap.objs.size (.lst [])) { s with heap := s.heap.push { cls := .type "list", data := .seq #[] } } := I.lnew (its := []) (t' := s.toks) .nil (Nat.zero_le _)
  show wpAny _ _ (do let old ← Builtin.List.listItems (.ref s.heap.objs.size); Builtin.List.listUpdate (.ref s.heap.objs.size) (fun _ => #[]); letGo old.toList.reverse; Builtin.List.listExtendWith (.ref s.heap.objs.size) (.ref a) .none) _ _ _
  refine wpAny_bind ?_
  unfold Builtin.List.listItems
  refine wpAny_bind (wpAny_seqItems hS rfl (wpAny_pure ?_))
  show wpAny _ _ (updateSeq s.heap.objs.size (fun _ => #[]) >>= fun _ => letGo (#[] : Array Value).toList.reverse >>= fun _ => Builtin.List.listExtendWith (.ref s.heap.objs.size) (.ref a) .none) _ _ _
  refine wpAny_bind (wpAny_updateSeq hS rfl ?_)
  have I2 := I1.lset (f := fun _ => #[]) (its := []) (its' := []) (ys := []) (t' := s.toks) upd_same hS rfl .nil (Nat.zero_le _)
  rw [upd_upd] at I2
  refine wpAny_bind (wpAny_letGo ?_)
  exact extend_ob (A1 := X.A.in1) (Rs := wants (fun r s₂ => r = .none ∧ EP X pins σ Q (.ref s.heap.objs.size) s₂) X.xe) sb (I.ok.hd hc) FI bI hm n1 n2 I2 fr ha (hl f hf) hw hz
    (fun s' I' => ⟨rfl, .ref s.heap.objs.size, _, I', rfl, hq _ fr⟩)
def bListOb (tab : Cid → Option Nat) : List PV → Option (List PV)
  | [x] => (match fldL tab x with
    | some ys => if ys.length ≤ 16777216 then some ys else none
    | none => none)
  | _ => none
theorem b_listOb {tab : Cid → Option Nat} (hK : X.K = S.K) (hc : X.calm = true) (h : ∀ c j, tab c = some j → ItrOk2 X S c j) : NfR X S (.type "list") (bListOb tab) := ⟨_, call_listOb hK hc h, fun F H xs zs vs Q s r e k => by
  unfold bListOb at e
  split at e
  · rename_i x
    split at e
    · rename_i ys q
      split at e
      · rename_i hz
        cases e
        obtain ⟨v, rfl, hv⟩ := cts1 r
        obtain ⟨c, j, a, dx, fs, l, ws, h1, rfl, h3, h4, h5, h6⟩ := fldL_of s hv q
        exact ⟨c, j, a, dx, fs, l, ws, h1, rfl, h3, h4, hK.symm ▸ SqL.same s h5, by rw [sizeLine_eq, ← h6.length]; exact hz, fun q hq => k q ws hq h6⟩
      · cases e
    · cases e
  · cases e⟩
end
end Y


namespace Y
open PySem PySem.Spec L2
def oInO (n : Bool) (tab : Cid → Option Fn) (x y : PV) : Option PV := match y with
  | .obj c ys => (match tab c with
    | some g => (match pureG g [.obj c ys, x] with
      | some (.bl b) => some (.bl (n != b))
      | _ => none)
    | none => none)
  | _ => none
section
variable {X : Cx} {S : Sg}
def rInO (S : Sg) (tab : Cid → Option Fn) (n : Bool) : R2 := fun v w H Q => ∃ F c g a dx fs ys x b, tab c = some g ∧ w = .ref a ∧ H a = some (.ins (S.ca c) dx fs) ∧ Same F H ∧ Rep S F (.obj c ys) w ∧ Rep S F x v ∧ pureG g [.obj c ys, x] = some (.bl b) ∧ ∀ F' H', Gw F H F' H' → Q (.bl (n != b)) H'
end
theorem noHint_ok {K : PySem.W.Frag} {c : Cid} (h : kNoHint c K = true) : NoHint (sgOf K) c := by
  obtain ⟨a, b⟩ := Bool.and_eq_true_iff.mp h
  exact ⟨of_decide_eq_true a, of_decide_eq_true b⟩
theorem itr_ok2 {P : Program} {w : World} {K : PySem.W.Frag} {mg : Str → Option Value} {base : Heap} {k i j : Nat} {c : Cid} {f : Str} {X : Cx} (hm : fK (.meth (cname c) "__iter__") K = true) (hn : kNoHint c K = true) (D : DnI P w (sgOf K) mg base k (pa K c "__iter__") (He.ga K (cname c)) f) (hr : Room i X.A) (hf : (flds c)[j]? = some f := by rfl) (hk : k + 2 ≤ i := by decide)
    (h1 : X.prog = P := by rfl) (h2 : X.w = w := by rfl) (h3 : X.K = K := by rfl) (h4 : X.mg = mg := by rfl) (h5 : X.base = base := by rfl) : ItrOk2 X (sgOf K) c j := by
  obtain ⟨fd, ps, F, b⟩ := D.ex
  subst h1 h2 h3 h4 h5
  exact ⟨⟨f, _, k, fd, ps, hf, He.meth_ok hm, F, b, hr.mono hk⟩, noHint_ok hn⟩
end Y
namespace Y
open PySem PySem.Spec L2
theorem tb_nil {p : Cid → Nat → Prop} : ∀ c j, fiL [] c = some j → p c j := fun c j e => by cases e
theorem tb_cons {p : Cid → Nat → Prop} {c0 : Cid} {j0 : Nat} {l : List (Cid × Nat)} (h : p c0 j0) (t : ∀ c j, fiL l c = some j → p c j) : ∀ c j, fiL ((c0, j0) :: l) c = some j → p c j := fun c j e => by
  unfold fiL at e
  rw [List.lookup_cons] at e
  by_cases q : c = c0
  · subst q
    simp at e
    rw [← e]
    exact h
  · have q2 : (c == c0) = false := by simpa using q
    rw [q2] at e
    exact t c j e
end Y


namespace Y
open PySem PySem.Spec L2
section
variable {ρ : Rh} {i j : Nat} {x y : PV} {fa fb fx fy : SE} {xs ys : List PV} {ks : List Key}
@[simp] theorem keyP_i {k : Int} : keyP (.int k) = some (.inl k) := rfl
@[simp] theorem keyP_s {k : Str} : keyP (.str k) = some (.inr k) := rfl
@[simp] theorem dgetP_d : dgetP (.dct ks xs) y = (keyP y).map fun k => valX k ks xs := rfl
@[simp] theorem ct_cont_un {n : Nat} : hK_ (some Sl.un) = none := rfl
def dgK (i : Nat) (y : PV) : SE := fun ρ => opM (((heldP ρ i).bind fun x => dgetP x y).join) ρ
@[simp] theorem dgK_ap : dgK i y ρ = opM (((heldP ρ i).bind fun x => dgetP x y).join) ρ := rfl
@[simp] theorem eDgV_ap : eDgV i fb ρ = if isB ρ i = true then bK (fb ρ) (dgK i) else none := by
  unfold eDgV
  split
  · rw [bind_ap]
    congr 1
    funext y ρ
    rw [dgK_ap]
    cases heldP ρ i with
    | none => rfl
    | some x =>
      show (match dgetP x y with
        | some (some z) => some (.ok z, ρ)
        | _ => none) = opM (dgetP x y).join ρ
      cases dgetP x y with
      | none => rfl
      | some o => cases o <;> rfl
  · rfl
@[simp] theorem eInD_ap {n : Bool} : eInD n fy fx ρ = bK (fy ρ) fun y => SM.bind fx fun x => opM ((dgetP x y).map fun o => .bl (n != o.isSome)) := by
  unfold eInD
  rw [bind_ap]
  congr 1
  funext y
  congr 1
  funext x ρ
  cases dgetP x y <;> rfl
@[simp] theorem getK_s {o' : PV} : getK y x (some o') ρ = opM ((dgetP o' y).map fun o => o.getD x) ρ := by
  show (match dgetP o' y with
    | some o => some (Ou.ok (o.getD x), ρ)
    | none => none) = _
  cases dgetP o' y <;> rfl
@[simp] theorem isDc_d : isDc (some (.dct ks xs)) = true := rfl
@[simp] theorem eGet2_ap {fr : SM Ar} : eGet2 fr fa fb ρ = bK (fr ρ) fun a ρ => if isDc (contAr ρ a) = true then bK (fa ρ) fun y => SM.bind fb fun x ρ => getK y x (contAr ρ a) ρ else none := by
  unfold eGet2
  rw [bind_ap]
  simp only [bind_ap]
def mdK (s : Option Sl) : Option (List Key × List PV) := match s with
  | some (.ow (.dct ks xs)) => some (ks, xs)
  | some (.io (.dct ks xs)) => some (ks, xs)
  | _ => none
@[simp] theorem mdK_ow : mdK (some (.ow (.dct ks xs))) = some (ks, xs) := rfl
@[simp] theorem mdK_io : mdK (some (.io (.dct ks xs))) = some (ks, xs) := rfl
@[simp] theorem mtD_ap : mtD ρ i = mdK ρ[i]? := by
  unfold mtD mdK
  split <;> simp_all
@[simp] theorem putD_ap {d : List Key × List PV} : putD ρ i d = ptK ρ i (.dct d.1 d.2) ρ[i]? := rfl
def sdK (i : Nat) (x : PV) (k : Option Key) (ρ : Rh) (d : Option (List Key × List PV)) : Option (Fl × Rh) := match k with
  | some k => (match d with
    | some d => if d.2.length < 16777216 then some (.nx, putD ρ i (putX k x d.1 d.2)) else none
    | none => none)
  | none => none
@[simp] theorem sdK_s {k : Key} {d : List Key × List PV} : sdK i x (some k) ρ (some d) = if d.2.length < 16777216 then some (.nx, putD ρ i (putX k x d.1 d.2)) else none := rfl
@[simp] theorem setD1_ap : setD1 i x y ρ = sdK i x (keyP y) ρ (mtD ρ i) := rfl
@[simp] theorem sSetD_ap : sSetD i fa fb ρ = eK (fa ρ) fun x ρ => if isB ρ i = true then eK (fb ρ) (setD1 i x) else none := by
  unfold sSetD
  rw [sE_ap]
  congr 1
def kyM (x : PV) : SM (List PV) := fun ρ => match x with
  | .dct ks _ => some (.ok (ks.map keyV), ρ)
  | _ => none
@[simp] theorem kyM_d : kyM (.dct ks xs) ρ = some (.ok (ks.map keyV), ρ) := rfl
@[simp] theorem iK_ap : iK fa ρ = bK (fa ρ) kyM := by
  unfold iK
  rw [bind_ap]
  refine congrArg _ (funext fun x => funext fun ρ => ?_)
  cases x <;> rfl
@[simp] theorem keyV_l {k : Int} : keyV (.inl k) = .int k := rfl
@[simp] theorem keyV_r {k : Str} : keyV (.inr k) = .str k := rfl
def opL (o : Option (List PV)) : SM (List PV) := fun ρ => match o with
  | some ys => some (.ok ys, ρ)
  | none => none
@[simp] theorem opL_s : opL (some ys) ρ = some (.ok ys, ρ) := rfl
@[simp] theorem iOb_ap {tab : Cid → Option Nat} : iOb tab fa ρ = bK (fa ρ) fun x => opL (fldL tab x) := by
  unfold iOb
  rw [bind_ap]
  refine congrArg _ (funext fun x => funext fun ρ => ?_)
  show _ = opL (fldL tab x) ρ
  unfold opL
  cases fldL tab x <;> rfl
def rvL : List PV → Option (List PV)
  | [.lst ys] => some ys.reverse
  | _ => none
@[simp] theorem rvL_s : rvL [.lst ys] = some ys.reverse := rfl
@[simp] theorem iRv_ap {fp : SM (List PV)} : iRv fp ρ = bK (fp ρ) fun xs => opL (rvL xs) := by
  unfold iRv
  rw [bind_ap]
  congr 1
  funext zs ρ
  split
  · rfl
  · rename_i h
    unfold rvL
    split
    · exact absurd rfl (h _)
    · rfl
def zpL : List PV → Option (List PV)
  | [.lst ys, .lst zs] => some ((ys.zip zs).map pairP)
  | _ => none
@[simp] theorem zpL_s {zs : List PV} : zpL [.lst ys, .lst zs] = some ((ys.zip zs).map pairP) := rfl
@[simp] theorem iZp_ap {fp : SM (List PV)} : iZp fp ρ = bK (fp ρ) fun xs => opL (zpL xs) := by
  unfold iZp
  rw [bind_ap]
  congr 1
  funext zs ρ
  split
  · rfl
  · rename_i h
    unfold zpL
    split
    · exact absurd rfl (h _ _)
    · rfl
def enL : List PV → Option (List PV)
  | [.lst ys] => some (enumP ys)
  | _ => none
@[simp] theorem enL_s : enL [.lst ys] = some (enumP ys) := rfl
@[simp] theorem iEn_ap {fp : SM (List PV)} : iEn fp ρ = bK (fp ρ) fun xs => opL (enL xs) := by
  unfold iEn
  rw [bind_ap]
  congr 1
  funext zs ρ
  split
  · rfl
  · rename_i h
    unfold enL
    split
    · exact absurd rfl (h _)
    · rfl
open Classical in
noncomputable def lrL (x : PV) : Option PV := match x with
  | .int k => if LrB k then some (.lst (rgS 0 k)) else none
  | _ => none
open Classical in
@[simp] theorem lrL_i {k : Int} : lrL (.int k) = if LrB k then some (.lst (rgS 0 k)) else none := rfl
@[simp] theorem eLr1_ap : eLr1 fa ρ = bK (fa ρ) fun x => opM (lrL x) := by
  unfold eLr1
  rw [bind_ap]
  congr 1
  funext x ρ
  cases x <;> first | rfl | skip
  dsimp only [lrL]
  split <;> rfl
def dcR (r : Option ((List Key × List PV) × Rh)) : Option (Ou PV × Rh) := match r with
  | some (acc, ρ') => some (.ok (.dct acc.1 acc.2), ρ')
  | none => none
@[simp] theorem dcR_s {acc : List Key × List PV} : dcR (some (acc, ρ)) = some (.ok (.dct acc.1 acc.2), ρ) := rfl
@[simp] theorem dcM_ap {T : Type} (it : SM T) (vals : T → List PV) (okf : T → Rh → Prop) {gm : GM} {tst : SM Bool} {fk fe : SE} {vs : List Nat} : dcM it vals okf gm tst fk fe vs ρ = bK (it ρ) fun t ρ => dcR (dcLc (okf t) gm tst fk fe vs (vals t) ([], []) (wipeR vs ρ)) := by
  unfold dcM
  rw [bind_ap]
  rfl
end
section
variable {ι : Type} {ok : Rh → Prop} {gm : GM} {tst : SM Bool} {fk fe : SE} {vs : List Nat} {enc : ι → PV}
def dcK (fe : SE) (k : PV) (r : Option (Ou PV × Rh)) : Option (PV × PV × Rh) := match r with
  | some (.ok y, ρ) => some (k, y, ρ)
  | _ => none
def dkK (fe : SE) (r : Option (Ou PV × Rh)) : Option (PV × PV × Rh) := match r with
  | some (.ok k, ρ) => dcK fe k (fe ρ)
  | _ => none
def dtK (fk fe : SE) (r : Option (Ou Bool × Rh)) : Option (PV × PV × Rh) := match r with
  | some (.ok true, ρ) => dkK fe (fk ρ)
  | _ => none
def dgmK (o : Option Rh) (k : Rh → Option (PV × PV × Rh)) : Option (PV × PV × Rh) := match o with
  | some ρ => k ρ
  | none => none
@[simp] theorem dcK_ok {k y : PV} {ρ : Rh} : dcK fe k (some (.ok y, ρ)) = some (k, y, ρ) := rfl
@[simp] theorem dkK_ok {k : PV} {ρ : Rh} : dkK fe (some (.ok k, ρ)) = dcK fe k (fe ρ) := rfl
@[simp] theorem dtK_ok {ρ : Rh} : dtK fk fe (some (.ok true, ρ)) = dkK fe (fk ρ) := rfl
@[simp] theorem dgmK_s {ρ : Rh} {k : Rh → Option (PV × PV × Rh)} : dgmK (some ρ) k = k ρ := rfl
/-- a turn that makes an entry -/
def dT (gm : GM) (tst : SM Bool) (fk fe : SE) (vs : List Nat) (x : PV) (ρ : Rh) : Option (PV × PV × Rh) := (dgmK (gm x ρ) fun ρ1 => dtK fk fe (tst ρ1)).map fun z => (z.1, z.2.1, wipeR vs z.2.2)
theorem dc_nil {acc : List Key × List PV} {ρ : Rh} (h : ok ρ) (u : unAll vs ρ = true) : dcLc ok gm tst fk fe vs [] acc ρ = some (acc, ρ) := by
  unfold dcLc
  rw [if_pos ⟨h, u⟩]
theorem dc_cons {acc : List Key × List PV} {x : PV} {xs : List PV} {k y : PV} {kk : Key} {ρ ρ' : Rh} (h : ok ρ) (u : unAll vs ρ = true) (hl : acc.2.length < 16777216) (e : dT gm tst fk fe vs x ρ = some (k, y, ρ')) (hk : keyP k = some kk) :
    dcLc ok gm tst fk fe vs (x :: xs) acc ρ = dcLc ok gm tst fk fe vs xs (putX kk y acc.1 acc.2) ρ' := by
  rw [dcLc, if_pos ⟨h, u⟩]
  unfold dT dgmK at e
  cases q1 : gm x ρ with
  | none => rw [q1] at e; cases e
  | some ρ1 =>
  rw [q1] at e
  dsimp only at e ⊢
  cases q2 : tst ρ1 with
  | none => rw [q2] at e; cases e
  | some z =>
  obtain ⟨b, ρ2⟩ := z
  rw [q2] at e
  cases b with
  | ex c => cases e
  | ok b =>
  cases b with
  | false => cases e
  | true =>
  dsimp only [dtK] at e ⊢
  cases q3 : fk ρ2 with
  | none => rw [q3] at e; cases e
  | some z =>
  obtain ⟨b, ρ3⟩ := z
  rw [q3] at e
  cases b with
  | ex c => cases e
  | ok kx =>
  dsimp only [dkK] at e ⊢
  cases q4 : fe ρ3 with
  | none => rw [q4] at e; cases e
  | some z =>
  obtain ⟨b, ρ4⟩ := z
  rw [q4] at e
  cases b with
  | ex c => cases e
  | ok yx =>
  dsimp only [dcK, Option.map] at e ⊢
  cases e
  rw [hk]
  dsimp only
  rw [if_pos hl]
/-- new keys, one behind another -/
theorem putX_new {k : Key} {y : PV} {ks : List Key} {xs : List PV} (h : k ∉ ks) : putX k y ks xs = (ks ++ [k], xs ++ [y]) := by
  have e : hasX k ks = false := by
    unfold hasX
    rw [List.any_eq_false]
    intro k' hk' z
    simp at z
    exact h (z ▸ hk')
  unfold putX
  rw [e]
  rfl
theorem dc_map {ρ : Rh} (hok : ok ρ) (hu : unAll vs ρ = true) (kf : ι → Int) (vf : ι → PV) : ∀ (xs : List ι) (acc : List Key × List PV), acc.2.length + xs.length ≤ 16777216 → (acc.1 ++ xs.map fun x => Sum.inl (kf x)).Nodup → (∀ x, x ∈ xs → dT gm tst fk fe vs (enc x) ρ = some (.int (kf x), vf x, ρ)) →
    dcLc ok gm tst fk fe vs (xs.map enc) acc ρ = some ((acc.1 ++ xs.map fun x => Sum.inl (kf x), acc.2 ++ xs.map vf), ρ)
  | [], acc, _, _, _ => by rw [List.map_nil, dc_nil hok hu]; simp
  | x :: xs, acc, hl, hn, ht => by
    rw [List.length_cons] at hl
    rw [List.map_cons, dc_cons hok hu (by omega) (ht x (List.mem_cons_self ..)) rfl]
    have nk : (Sum.inl (kf x) : Key) ∉ acc.1 := fun z => by
      rw [List.map_cons, List.nodup_append] at hn
      exact hn.2.2 _ z _ (List.mem_cons_self ..) rfl
    rw [putX_new nk, dc_map hok hu kf vf xs _ (by rw [List.length_append, List.length_singleton]; omega) (by simpa using hn) fun y hy => ht y (List.mem_cons_of_mem _ hy)]
    simp
end
/-- what an assoc list holds -/
def aget {α : Type} (l : List (Int × α)) (k : Int) : Option α := match l with
  | [] => none
  | p :: r => if p.1 = k then some p.2 else aget r k
def aput {α : Type} (l : List (Int × α)) (k : Int) (a : α) : List (Int × α) := if (aget l k).isSome = true then l.map (fun p => if p.1 = k then (p.1, a) else p) else l ++ [(k, a)]
def akeys {α : Type} (l : List (Int × α)) : List Key := l.map fun p => Sum.inl p.1
def avals {α : Type} (enc : α → PV) (l : List (Int × α)) : List PV := l.map fun p => enc p.2
section
variable {α : Type} {enc : α → PV}
theorem inl_eq {a b : Int} : ((Sum.inl a : Key) = Sum.inl b) ↔ a = b := ⟨fun h => by cases h; rfl, fun h => by rw [h]⟩
theorem valX_a {k : Int} : ∀ {l : List (Int × α)}, valX (.inl k) (akeys l) (avals enc l) = (aget l k).map enc
  | [] => rfl
  | p :: r => by
    show (if (Sum.inl p.1 : Key) = Sum.inl k then some (enc p.2) else valX (.inl k) (akeys r) (avals enc r)) = _
    unfold aget
    by_cases h : p.1 = k
    · rw [if_pos h, if_pos (by rw [h])]; rfl
    · rw [if_neg h, if_neg (fun z => h (inl_eq.mp z)), valX_a]
theorem hasX_a {k : Int} : ∀ {l : List (Int × α)}, hasX (.inl k) (akeys l) = (aget l k).isSome
  | [] => rfl
  | p :: r => by
    show (decide ((Sum.inl p.1 : Key) = Sum.inl k) || hasX (.inl k) (akeys r)) = _
    unfold aget
    by_cases h : p.1 = k
    · rw [if_pos h, decide_eq_true (by rw [h])]; rfl
    · rw [if_neg h, decide_eq_false (fun z => h (inl_eq.mp z)), hasX_a, Bool.false_or]
theorem repX_a {k : Int} {a : α} : ∀ {l : List (Int × α)}, repX (.inl k) (enc a) (akeys l) (avals enc l) = avals enc (l.map fun p => if p.1 = k then (p.1, a) else p)
  | [] => rfl
  | p :: r => by
    show (if (Sum.inl p.1 : Key) = Sum.inl k then enc a else enc p.2) :: repX (.inl k) (enc a) (akeys r) (avals enc r) = _
    rw [repX_a]
    by_cases h : p.1 = k
    · rw [if_pos (by rw [h])]
      simp [avals, h]
    · rw [if_neg (fun z => h (inl_eq.mp z))]
      simp [avals, h]
theorem akeys_rep {k : Int} {a : α} (l : List (Int × α)) : akeys (l.map fun p => if p.1 = k then (p.1, a) else p) = akeys l := by
  unfold akeys
  rw [List.map_map]
  apply List.map_congr_left
  intro p _
  show (Sum.inl (if p.1 = k then (p.1, a) else p).1 : Key) = _
  split <;> rfl
theorem putX_a {k : Int} {a : α} {l : List (Int × α)} : putX (.inl k) (enc a) (akeys l) (avals enc l) = (akeys (aput l k a), avals enc (aput l k a)) := by
  unfold putX aput
  rw [hasX_a]
  split
  · rw [repX_a, akeys_rep]
  · simp [akeys, avals]
theorem avals_len {l : List (Int × α)} : (avals enc l).length = l.length := by simp [avals]
end
end Y


namespace GQ
open PySem PySem.SeqAt
open AutoSeq1 (wpAny_loadPart')
open MeetsSeq MeetsSeq2 MeetsSeq3 SeqRoads2
section
variable {prog : Program} {w : World} {A : Around} {R : Result → Shared → Prop}
/-- at each turn the two lists are read anew; the i-th two are equal as e says -/
def ListB (prog : Program) (w : World) (A : Around) (E : Value → Shared → Prop) (l b : Addr) (N : Nat) (e : Nat → Bool) (I : Nat → Shared → Prop) : Prop :=
  ∀ i s, I i s → ∃ (items items2 : Array Value) (n n2 : Nat) (dd dd2 : Option Addr) (sl sl2 : Array (Option Value)), s.heap.get? l = some { cls := .type "list", dict := dd, data := .seq items n, slots := sl } ∧ s.heap.get? b = some { cls := .type "list", dict := dd2, data := .seq items2 n2, slots := sl2 } ∧ items.size = N ∧ items2.size = N ∧
    ∀ (h1 : i < items.size) (h2 : i < items2.size), wpAny (model prog w) A.in1 (eqBool items[i] items2[i]) (fun r s' => r = e i ∧ I (i + 1) s') E s
theorem ne_loopB (l b : Addr) (N : Nat) (e : Nat → Bool) (I : Nat → Shared → Prop) (hl : ListB prog w A (fun e s' => R (.error e) s') l b N e I)
    (fin : ∀ i s, I i s → R (.ok (.ret (.bool (!(List.range N).all e)))) s) (k : Nat) :
    ∀ i : Nat, N - i = k → i ≤ N → ((List.range N).all e = ((List.range N).drop i).all e) → ∀ s, I i s →
      wpAny (model prog w) A.in1 (Builtin.«list.__eq__.loop» ⟨[.ref l, .ref b, rawInt i, rawInt 3], []⟩) (FinOf prog w A R) (fun e s' => R (.error e) s') s := by
  induction k with
  | zero =>
    intro i hk hi hd0 s h
    obtain ⟨items, items2, n, n2, dd, dd2, sl, sl2, hl1, hb1, hs1, hs2, _⟩ := hl _ _ h
    have hR := fin _ _ h
    have hd : (List.range N).drop i = [] := by simp; omega
    rw [hd0, hd] at hR
    obtain ⟨hp, g, d, tk, os⟩ := s
    wp_walk using wpAny_loadPart' hl1, wpAny_loadPart' hb1
    have hi1 : items[((i : Nat) : Int).toNat]? = none := by simp; omega
    have hi2 : items2[((i : Nat) : Int).toNat]? = none := by simp; omega
    rw [hi1, hi2]
    wp_walk using wpAny_loadPart' hl1, wpAny_loadPart' hb1
    show R (.ok (.ret (.bool (items.size != items2.size)))) _
    rw [hs1, hs2]
    simpa using hR
  | succ k ih =>
    intro i hk hi hd0 s h
    obtain ⟨items, items2, n, n2, dd, dd2, sl, sl2, hl1, hb1, hs1, hs2, turn⟩ := hl _ _ h
    have hlt : i < items.size := by omega
    have hlt2 : i < items2.size := by omega
    have ht := turn hlt hlt2
    have hd : (List.range N).drop i = i :: (List.range N).drop (i + 1) := by
      have : i < N := by omega
      simp [List.drop_eq_getElem_cons, this]
    rw [hd, List.all_cons] at hd0
    obtain ⟨hp, g, d, tk, os⟩ := s
    wp_walk using wpAny_loadPart' hl1, wpAny_loadPart' hb1
    have hi1 : items[((i : Nat) : Int).toNat]? = some items[i] := by simp [hlt]
    have hi2 : items2[((i : Nat) : Int).toNat]? = some items2[i] := by simp [hlt2]
    have hc : ((i : Int) + 1) = ((i + 1 : Nat) : Int) := by omega
    rw [hi1, hi2]
    refine wpAny_bind (wpAny_mono ht (fun r s2 h2 => ?_) fun _ _ x => x)
    obtain ⟨hr, h2⟩ := h2
    subst hr
    cases hb' : e i with
    | true =>
      rw [hb', Bool.true_and] at hd0
      have hrec := ih (i + 1) (by omega) (by omega) hd0 s2 h2
      obtain ⟨hp2, g2, d2, tk2, os2⟩ := s2
      wp_walk
      rw [hc]
      exact ⟨plainId_quiet plain_eq_loop _, codeAny_builtin entry_eq_loop (by
        rw [Around.under_plainId plain_eq_loop _]
        exact hrec)⟩
    | false =>
      rw [hb', Bool.false_and] at hd0
      have hR := fin _ _ h2
      rw [hd0] at hR
      obtain ⟨items', items2', n', n2', dd', dd2', sl', sl2', hl1', hb1', hs1', hs2', _⟩ := hl _ _ h2
      have hlt' : i < items'.size := by omega
      have hlt2' : i < items2'.size := by omega
      obtain ⟨hp2, g2, d2, tk2, os2⟩ := s2
      wp_walk using wpAny_loadPart' hl1', wpAny_loadPart' hb1'
      have hi1' : items'[((i : Nat) : Int).toNat]? = some items'[i] := by simp [hlt']
      have hi2' : items2'[((i : Nat) : Int).toNat]? = some items2'[i] := by simp [hlt2']
      rw [hi1', hi2']
      wp_walk
      exact hR
theorem list_neB (l b : Addr) (N : Nat) (e : Nat → Bool) (I : Nat → Shared → Prop) (hl : ListB prog w A (fun e s' => R (.error e) s') l b N e I)
    (fin : ∀ i s, I i s → R (.ok (.ret (.bool (!(List.range N).all e)))) s) {s : Shared} (h : I 0 s) :
    wpAny (model prog w) A.in1 (Builtin.«list.__ne__» ⟨[.ref l, .ref b], []⟩) (FinOf prog w A R) (fun e s' => R (.error e) s') s := by
  obtain ⟨items, items2, n, n2, dd, dd2, sl, sl2, hl1, hb1, hs1, hs2, _⟩ := hl _ _ h
  have hrec := ne_loopB (A := A) (R := R) l b N e I hl fin _ 0 rfl (Nat.zero_le _) (by simp) s h
  obtain ⟨hp, g, d, tk, os⟩ := s
  have f3 := AutoSeq1.sub_list_list
  have hne : ¬ (items.size != items2.size) = true := by simp [hs1, hs2]
  wp_walk using wpAny_loadPart' hl1, wpAny_loadPart' hb1
  exact ⟨plainId_quiet plain_eq_loop _, codeAny_builtin entry_eq_loop (by
    rw [Around.under_plainId plain_eq_loop _]
    exact hrec)⟩
end
section
variable {prog : Program} {w : World} {A : Around} {E : Value → Shared → Prop} {s : Shared}
theorem rc_listN {l b : Addr} {N : Nat} {e : Nat → Bool} {Q : Value → Shared → Prop} (hu : A.units < cLine) (I : Nat → Shared → Prop) (hl : ListB prog w A E l b N e I)
    (fin : ∀ i s, I i s → Q (.bool (!(List.range N).all e)) s) (h : I 0 s) : wpAny (model prog w) A (richCompare .NotEq (.ref l) (.ref b)) Q E s := by
  obtain ⟨items, items2, n, n2, dd, dd2, sl, sl2, hl1, hb1, _, _, _⟩ := hl _ _ h
  refine wpAny_richCompare_same_room (op := .NotEq) ⟨_, hl1, rfl⟩ ⟨_, hb1, rfl⟩ F.slot_list_ne (call_here F.slot_list_ne ⟨_, hl1, rfl⟩ F.entry_list_ne (F.args_list_ne_2 _ _) ?_) hu
  exact list_neB (R := wants (fun v s' => v ≠ .notImplemented ∧ Q v s') E) l b N e I hl (fun i s' q => ⟨(fun x => nomatch x), fin i s' q⟩) h
end
end GQ


namespace Y
open PySem PySem.Spec L2
section
variable {X : Cx} {S : Sg}
mutual
def smp : PV → Bool
  | .non => true
  | .bl _ => true
  | .int _ => true
  | .str _ => true
  | .tup xs => smps xs
  | .lst xs => smps xs
  | _ => false
def smps : List PV → Bool
  | [] => true
  | x :: xs => smp x && smps xs
end
theorem tup_lst {pins : List (Addr × Obj)} {σ : L2.St} {H : Hp} {s : Shared} {a : Addr} {xs ys : List V} (I : Inv X pins σ H s) (h : SqT X.K H a xs) (h' : SqL X.K H a ys) : False := by
  obtain ⟨_, _, ⟨o, e, c, _⟩, _⟩ := I.tuple h
  obtain ⟨_, _, ⟨o', n', e', c', _, _⟩, _⟩ := I.list h'
  rw [e] at e'
  cases e'
  rw [c] at c'
  exact absurd c' (by decide)
mutual
theorem rep_inj {pins : List (Addr × Obj)} {σ : L2.St} {H F : Hp} {s : Shared} (hK : X.K = S.K) (I : Inv X pins σ H s) (sm : Same F H) : ∀ (x y : PV) (v : V), smp x = true → smp y = true → Rep S F x v → Rep S F y v → x = y
  | .non, y, v, h1, h2, r1, r2 => by
    obtain rfl : v = V.non := r1
    cases y <;> first | rfl | (cases h2; done) | (cases (show V.non = _ from r2); done) | (obtain ⟨_, _, e, _⟩ := r2; cases e)
  | .bl b, y, v, h1, h2, r1, r2 => by
    obtain rfl : v = V.bl b := r1
    cases y <;> first | (cases h2; done) | (cases (show V.bl b = _ from r2); first | rfl | done) | (obtain ⟨_, _, e, _⟩ := r2; cases e)
  | .int b, y, v, h1, h2, r1, r2 => by
    obtain rfl : v = V.int b := r1
    cases y <;> first | (cases h2; done) | (cases (show V.int b = _ from r2); first | rfl | done) | (obtain ⟨_, _, e, _⟩ := r2; cases e)
  | .str b, y, v, h1, h2, r1, r2 => by
    obtain rfl : v = V.str b := r1
    cases y <;> first | (cases h2; done) | (cases (show V.str b = _ from r2); first | rfl | done) | (obtain ⟨_, _, e, _⟩ := r2; cases e)
  | .tup xs, y, v, h1, h2, r1, r2 => by
    obtain ⟨a, vs, rfl, t1, q1⟩ := r1
    cases y with
    | tup ys =>
      obtain ⟨a', vs', e, t2, q2⟩ := r2
      cases e
      have e := I.tuple_inj (by rw [hK]; exact SqT.same sm t1) (by rw [hK]; exact SqT.same sm t2)
      subst e
      rw [reps_inj hK I sm xs ys vs h1 h2 q1 q2]
    | lst ys =>
      obtain ⟨a', vs', e, t2, q2⟩ := r2
      cases e
      exact (tup_lst I (by rw [hK]; exact SqT.same sm t1) (by rw [hK]; exact SqL.same sm t2)).elim
    | non => cases (show V.ref a = _ from r2)
    | bl b => cases (show V.ref a = _ from r2)
    | int b => cases (show V.ref a = _ from r2)
    | str b => cases (show V.ref a = _ from r2)
    | _ => cases h2
  | .lst xs, y, v, h1, h2, r1, r2 => by
    obtain ⟨a, vs, rfl, t1, q1⟩ := r1
    cases y with
    | lst ys =>
      obtain ⟨a', vs', e, t2, q2⟩ := r2
      cases e
      have e := I.list_inj (by rw [hK]; exact SqL.same sm t1) (by rw [hK]; exact SqL.same sm t2)
      subst e
      rw [reps_inj hK I sm xs ys vs h1 h2 q1 q2]
    | tup ys =>
      obtain ⟨a', vs', e, t2, q2⟩ := r2
      cases e
      exact (tup_lst I (by rw [hK]; exact SqT.same sm t2) (by rw [hK]; exact SqL.same sm t1)).elim
    | non => cases (show V.ref a = _ from r2)
    | bl b => cases (show V.ref a = _ from r2)
    | int b => cases (show V.ref a = _ from r2)
    | str b => cases (show V.ref a = _ from r2)
    | _ => cases h2
  | .ty _, _, _, h1, _, _, _ => by cases h1
  | .cls _, _, _, h1, _, _, _ => by cases h1
  | .dct _ _, _, _, h1, _, _, _ => by cases h1
  | .dcn _ _, _, _, h1, _, _, _ => by cases h1
  | .obj _ _, _, _, h1, _, _, _ => by cases h1
  | .xad _, _, _, h1, _, _, _ => by cases h1
  | .dtt _ _, _, _, h1, _, _, _ => by cases h1
  | .err _, _, _, h1, _, _, _ => by cases h1
theorem reps_inj {pins : List (Addr × Obj)} {σ : L2.St} {H F : Hp} {s : Shared} (hK : X.K = S.K) (I : Inv X pins σ H s) (sm : Same F H) : ∀ (xs ys : List PV) (vs : List V), smps xs = true → smps ys = true → Reps S F xs vs → Reps S F ys vs → xs = ys
  | [], [], _, _, _, _, _ => rfl
  | [], y :: ys, vs, _, _, r1, r2 => by
    obtain ⟨_, _, e, _⟩ := r2
    rw [(show vs = [] from r1)] at e
    cases e
  | x :: xs, [], vs, _, _, r1, r2 => by
    obtain ⟨_, _, e, _⟩ := r1
    rw [(show vs = [] from r2)] at e
    cases e
  | x :: xs, y :: ys, vs, h1, h2, r1, r2 => by
    obtain ⟨v, r, rfl, a1, b1⟩ := r1
    obtain ⟨v', r', e, a2, b2⟩ := r2
    cases e
    obtain ⟨p1, p2⟩ := Bool.and_eq_true_iff.mp (show (smp x && smps xs) = true from h1)
    obtain ⟨p3, p4⟩ := Bool.and_eq_true_iff.mp (show (smp y && smps ys) = true from h2)
    rw [rep_inj hK I sm x y v p1 p3 a1 a2, reps_inj hK I sm xs ys r p2 p4 b1 b2]
end
open Classical in
/-- == of two items of a list -/
noncomputable def eqO (tab : Cid → Option Fn) (x y : PV) : Option Bool := match dat x, dat y with
  | some d, some e => if (okD d && okD e) = true then some (PyData.eqv d e) else none
  | _, _ => match x, y with
    | .obj c xs, .obj d ys => if d = c then (match tab c with
      | some g => (match pureG g [x, y] with
        | some (.bl true) => some true
        | some (.bl false) => if smps xs = true ∧ smps ys = true ∧ xs ≠ ys then some false else none
        | _ => none)
      | none => none) else none
    | .non, .obj d ys => (match tab d with
      | some g => (match pureG g [.obj d ys, .non] with
        | some (.bl b) => some b
        | _ => none)
      | none => none)
    | .obj d ys, .non => (match tab d with
      | some g => (match pureG g [.obj d ys, .non] with
        | some (.bl b) => some b
        | _ => none)
      | none => none)
    | _, _ => none
noncomputable def eqLs (tab : Cid → Option Fn) : List PV → List PV → Option Bool
  | [], [] => some true
  | x :: xs, y :: ys => match eqO tab x y, eqLs tab xs ys with
    | some b, some c => some (b && c)
    | _, _ => none
  | _, _ => none
noncomputable def eqL (tab : Cid → Option Fn) (x y : PV) : Option Bool := match x, y with
  | .lst xs, .lst ys => if xs.length = ys.length then eqLs tab xs ys else some false
  | _, _ => none
noncomputable def oEqL (tab : Cid → Option Fn) (x y : PV) : Option PV := (eqL tab x y).map .bl
noncomputable def oNeL (tab : Cid → Option Fn) (x y : PV) : Option PV := (eqL tab x y).map fun b => .bl (!b)
/-- the i-th answer -/
noncomputable def eqAtI (tab : Cid → Option Fn) (xs ys : List PV) (i : Nat) : Bool := match xs[i]?, ys[i]? with
  | some x, some y => (eqO tab x y).getD false
  | _, _ => false
theorem eqLs_all {tab : Cid → Option Fn} : ∀ {xs ys : List PV} {b : Bool}, eqLs tab xs ys = some b → xs.length = ys.length ∧ ((List.range xs.length).all (eqAtI tab xs ys) = b) ∧ ∀ (i : Nat) (x y : PV), xs[i]? = some x → ys[i]? = some y → eqO tab x y = some (eqAtI tab xs ys i)
  | [], [], b, h => by
    cases h
    exact ⟨rfl, rfl, fun i x y h _ => by simp at h⟩
  | [], y :: ys, b, h => by cases h
  | x :: xs, [], b, h => by cases h
  | x :: xs, y :: ys, b, h => by
    unfold eqLs at h
    split at h
    · rename_i c d h1 h2
      cases h
      obtain ⟨a1, a2, a3⟩ := eqLs_all h2
      have e0 : eqAtI tab (x :: xs) (y :: ys) 0 = c := by
        show (eqO tab x y).getD false = c
        rw [h1]
        rfl
      have es : ∀ i, eqAtI tab (x :: xs) (y :: ys) (i + 1) = eqAtI tab xs ys i := fun i => by
        unfold eqAtI
        rw [List.getElem?_cons_succ, List.getElem?_cons_succ]
      refine ⟨by rw [List.length_cons, List.length_cons, a1], ?_, fun i z u q1 q2 => ?_⟩
      · rw [List.length_cons, List.range_succ_eq_map, List.all_cons, e0, List.all_map]
        rw [← a2]
        congr 1
      · cases i with
        | zero =>
          rw [List.getElem?_cons_zero] at q1 q2
          cases q1
          cases q2
          rw [e0, h1]
        | succ i =>
          rw [List.getElem?_cons_succ] at q1 q2
          rw [es]
          exact a3 i z u q1 q2
    · cases h
end
section
variable {X : Cx} {S : Sg}
theorem zip_inj {α : Type} : ∀ {ks : List Str} {vs ws : List α}, vs.length ≤ ks.length → ws.length ≤ ks.length → ks.zip vs = ks.zip ws → vs = ws
  | [], vs, ws, h1, h2, _ => by
    rw [List.eq_nil_of_length_eq_zero (Nat.le_zero.mp h1), List.eq_nil_of_length_eq_zero (Nat.le_zero.mp h2)]
  | k :: ks, [], [], _, _, _ => rfl
  | k :: ks, [], w :: ws, _, _, h => by cases h
  | k :: ks, v :: vs, [], _, _, h => by cases h
  | k :: ks, v :: vs, w :: ws, h1, h2, h => by
    rw [List.zip_cons_cons, List.zip_cons_cons] at h
    injection h with a b
    injection a with _ a
    rw [a, zip_inj (Nat.le_of_succ_le_succ h1) (Nat.le_of_succ_le_succ h2) b]
theorem eqO_run {tab : Cid → Option Fn} (hK : X.K = S.K) (ok : ∀ c g, tab c = some g → CmpOk X S .Eq c g) (hu : X.A.units + 66 < cLine) {pins : List (Addr × Obj)} {σ : L2.St} {F H : Hp} {s : Shared} {x y : PV} {v w : V} {u t : Value} {b : Bool} (I : Inv X pins σ H s) (sm : Same F H) (r1 : Rep S F x v) (r2 : Rep S F y w) (q1 : RelV v u) (q2 : RelV w t) (e : eqO tab x y = some b) :
    wpAny (model X.prog X.w) X.A.in1 (eqBool u t) (fun r s' => r = b ∧ ∃ F' H', Gw F H F' H' ∧ Inv X pins σ H' s') X.xe s := by
  have iu : X.A.in1.units + 64 < cLine := by
    have : X.A.in1.units ≤ X.A.units + 1 := by first | rfl | exact Nat.le_refl _ | (show X.A.units + 1 ≤ _; omega)
    omega
  unfold eqO at e
  split at e
  · rename_i d d' e1 e2
    split at e
    · rename_i h
      cases e
      obtain ⟨h1, h2⟩ := Bool.and_eq_true_iff.mp h
      obtain ⟨as, ra⟩ := Dp.reads I d v u (by rw [hK]; exact dp_rep sm x v d r1 e1) q1
      obtain ⟨bs, rb⟩ := Dp.reads I d' w t (by rw [hK]; exact dp_rep sm y w d' r2 e2) q2
      exact SeqAt.eqAt_reads d d' X.A.in1 s u t as bs ra rb (SeqAt.canLay_of_shaped h1) (SeqAt.canLay_of_shaped h2) (SeqAt.room_of_shaped h1 iu) _ _ _ _ ⟨rfl, F, H, Gw.rfl' sm, I⟩
    · cases e
  · split at e
    · rename_i c xs d ys _
      split at e
      · rename_i hd
        subst hd
        split at e
        · rename_i g ht
          obtain ⟨a, dx, vs, rfl, ha, la, qa⟩ := r1
          obtain ⟨a', dy, ws, rfl, ha', la', qa'⟩ := r2
          obtain rfl : u = Value.ref a := q1
          obtain rfl : t = Value.ref a' := q2
          by_cases hab : a = a'
          · subst hab
            have bt : b = true := by
              split at e
              · cases e; rfl
              · split at e
                · rename_i h
                  obtain ⟨s1, s2, ne⟩ := h
                  rw [ha] at ha'
                  injection ha' with ha'
                  injection ha' with _ _ z
                  have z := zip_inj la la' z
                  subst z
                  exact absurd (reps_inj hK I sm xs ys vs s1 s2 qa qa') ne
                · cases e
              · cases e
            subst bt
            exact SeqAt.EqAt.same (A := X.A.in1) (s := s) (.ref a) X.prog X.w X.xe _ ⟨rfl, F, H, Gw.rfl' sm, I⟩
          · have pg : pureG g [.obj d xs, .obj d ys] = some (.bl b) := by
              split at e
              · rename_i q; cases e; exact q
              · rename_i q
                split at e
                · cases e; exact q
                · cases e
              · cases e
            have ok1 := ok d g ht
            obtain ⟨f, hm, C⟩ := ok1.ex
            obtain ⟨od, J⟩ := inst_at I (sm _ _ ha)
            obtain ⟨od2, J2⟩ := inst_at I (sm _ _ ha')
            obtain ⟨m, fr⟩ := I.fr
            have sp : spOf S g [V.ref a, V.ref a'] H (fun v H' => v = .bl b ∧ ∃ F', Gw F H F' H') (WE (fun _ _ _ _ => False) σ) :=
              pure_sp (F := F) (xs := [.obj d xs, .obj d ys]) sm (Reps.cons ⟨a, dx, vs, rfl, ha, la, qa⟩ (Reps.cons ⟨a', dy, ws, rfl, ha', la', qa'⟩ Reps.nil)) pg fun u F' H' gw ru => ⟨ru, F', gw⟩
            refine GQ.eqBool_refG hab ?_
            refine PySem.W.cmp_K (op := .Eq) (by omega) fr I.ok.mod.kin J J2.type ?_ (by rw [hK]; exact hm.at_) (by rw [hK]; exact hm.fn) ?_
            · unfold PySem.W.notFirst
              simp
            · refine wpAny_mono (own_runI (vs := [V.ref a, V.ref a']) hK C I (.cons rfl (.cons rfl .nil)) sp) (fun r s' h => ?_) fun _ _ z => z
              obtain ⟨z, H', I', rz, ez, F', gw⟩ := h
              subst ez
              obtain rfl : r = Value.bool b := rz
              exact ⟨b, rfl, rfl, F', H', gw, I'⟩
        · cases e
      · cases e
    · rename_i d ys _
      split at e
      · rename_i g ht
        obtain ⟨a, dx, vs, rfl, ha, la, qa⟩ := r2
        obtain rfl : v = V.non := r1
        obtain rfl : u = Value.none := q1
        obtain rfl : t = Value.ref a := q2
        have pg : pureG g [.obj d ys, .non] = some (.bl b) := by
          split at e
          · rename_i q; cases e; exact q
          · cases e
        have ok1 := ok d g ht
        obtain ⟨f, hm, C⟩ := ok1.ex
        obtain ⟨od, J⟩ := inst_at I (sm _ _ ha)
        have sp : spOf S g [V.ref a, V.non] H (fun v H' => v = .bl b ∧ ∃ F', Gw F H F' H') (WE (fun _ _ _ _ => False) σ) :=
          pure_sp (F := F) (xs := [.obj d ys, .non]) sm (Reps.cons ⟨a, dx, vs, rfl, ha, la, qa⟩ (Reps.cons (show Rep S F .non V.non from rfl) Reps.nil)) pg fun u F' H' gw ru => ⟨ru, F', gw⟩
        unfold eqBool
        refine wpAny_holding ?_
        refine wpAny_ite_split (fun hab => absurd (eq_of_beq hab) nofun) (fun _ => ?_)
        refine wpAny_bind ?_
        refine wpAny_mono (E := X.xe) (Q := fun v s' => ∃ r, v = .bool r ∧ (r = b ∧ ∃ F' H', Gw F H F' H' ∧ Inv X pins σ H' s')) ?_ (fun v s' hv => ?_) fun _ _ z => z
        · refine PySem.W.yCmpRefl (op := .Eq) (by omega) I.kIn J (show s.TypeIs .none "NoneType" from rfl) (by rw [hK]; exact ok1.subN) (fun hq => wpAny_tryCompare_declines (show s.TypeIs .none "NoneType" from rfl) PySem.F.slot_NoneType_eq_refl (call_gives PySem.F.slot_NoneType_eq_refl rfl PySem.F.entry_NoneType_eq (PySem.F.args_NoneType_eq_2 _ _) (PySem.SeqAt.NoneType___eq___none_ref_0 a) ⟨rfl, hq⟩)) (by rw [hK]; exact hm.at_) (by rw [hK]; exact hm.fn) ?_
          refine wpAny_mono (own_runI (vs := [V.ref a, V.non]) hK C I (.cons rfl (.cons rfl .nil)) sp) (fun r s' h => ?_) fun _ _ z => z
          obtain ⟨z, H', I', rz, ez, F', gw⟩ := h
          subst ez
          obtain rfl : r = Value.bool b := rz
          exact ⟨b, rfl, rfl, F', H', gw, I'⟩
        · obtain ⟨r, rfl, q⟩ := hv
          exact wpAny_truthy_bool q
      · cases e
    · rename_i d ys _
      split at e
      · rename_i g ht
        obtain ⟨a, dx, vs, rfl, ha, la, qa⟩ := r1
        obtain rfl : w = V.non := r2
        obtain rfl : t = Value.none := q2
        obtain rfl : u = Value.ref a := q1
        have pg : pureG g [.obj d ys, .non] = some (.bl b) := by
          split at e
          · rename_i q; cases e; exact q
          · cases e
        have ok1 := ok d g ht
        obtain ⟨f, hm, C⟩ := ok1.ex
        obtain ⟨od, J⟩ := inst_at I (sm _ _ ha)
        obtain ⟨m, fr⟩ := I.fr
        have sp : spOf S g [V.ref a, V.non] H (fun v H' => v = .bl b ∧ ∃ F', Gw F H F' H') (WE (fun _ _ _ _ => False) σ) :=
          pure_sp (F := F) (xs := [.obj d ys, .non]) sm (Reps.cons ⟨a, dx, vs, rfl, ha, la, qa⟩ (Reps.cons (show Rep S F .non V.non from rfl) Reps.nil)) pg fun u F' H' gw ru => ⟨ru, F', gw⟩
        unfold eqBool
        refine wpAny_holding ?_
        refine wpAny_ite_split (fun hab => absurd (eq_of_beq hab) nofun) (fun _ => ?_)
        refine wpAny_bind ?_
        refine wpAny_mono (E := X.xe) (Q := fun v s' => ∃ r, v = .bool r ∧ (r = b ∧ ∃ F' H', Gw F H F' H' ∧ Inv X pins σ H' s')) ?_ (fun v s' hv => ?_) fun _ _ z => z
        · refine PySem.W.cmp_K (op := .Eq) (by omega) fr I.ok.mod.kin J (tySc_looks (F := F) (x := .non) (show Rep S F .non V.non from rfl) (show RelV V.non Value.none from rfl) (show tySc .non = some "NoneType" from rfl)) ?_ (by rw [hK]; exact hm.at_) (by rw [hK]; exact hm.fn) ?_
          · unfold PySem.W.notFirst
            rw [hK, ok1.sub "NoneType" (tySc_mem (x := .non) rfl)]
            simp
          · refine wpAny_mono (own_runI (vs := [V.ref a, V.non]) hK C I (.cons rfl (.cons rfl .nil)) sp) (fun r s' h => ?_) fun _ _ z => z
            obtain ⟨z, H', I', rz, ez, F', gw⟩ := h
            subst ez
            obtain rfl : r = Value.bool b := rz
            exact ⟨b, rfl, rfl, F', H', gw, I'⟩
        · obtain ⟨r, rfl, q⟩ := hv
          exact wpAny_truthy_bool q
      · cases e
    · cases e
theorem ct_list {F H : Hp} {xs : List PV} {v : V} (sm : Same F H) (r : CtR S F H (.lst xs) v) : ∃ a vs, v = .ref a ∧ SqL S.K H a vs ∧ Reps S F xs vs := by
  rcases r with ⟨a, vs, rfl, h1, h2⟩ | ⟨p, rfl, vs, h1, h2⟩
  · exact ⟨a, vs, rfl, SqL.same sm h1, h2⟩
  · exact ⟨p, vs, rfl, SqL.of h1, h2⟩
/-- the loop's state -/
def LpI (X : Cx) (pins : List (Addr × Obj)) (σ : L2.St) (F H : Hp) (s' : Shared) : Prop := ∃ F' H', Gw F H F' H' ∧ Inv X pins σ H' s'
end
end Y
namespace Y
open PySem PySem.Spec L2
/-- all items equal to themselves -/
theorem eqLs_same {tab : Cid → Option Fn} : ∀ {xs : List PV}, (∀ x ∈ xs, eqO tab x x = some true) → eqLs tab xs xs = some true
  | [], _ => rfl
  | x :: xs, h => by
    unfold eqLs
    rw [h x (List.mem_cons_self ..), eqLs_same fun y hy => h y (List.mem_cons_of_mem _ hy)]
    rfl
theorem eqO_same {tab : Cid → Option Fn} {c : Cid} {g : Fn} {xs : List PV} (ht : tab c = some g) (h : pureG g [.obj c xs, .obj c xs] = some (.bl true)) : eqO tab (.obj c xs) (.obj c xs) = some true := by
  unfold eqO
  have : dat (.obj c xs) = none := rfl
  rw [this]
  simp [ht, h]
end Y


namespace PySem.W
open PySem PySem.Calls PyProof.Rows
section
variable {prog : Program} {w : World} {A : Around} {E : Value → Shared → Prop} {s : Shared} {K : Frag} {x C f : Addr} {ox : Obj} {od : Option Obj}
end
end PySem.W
namespace Y
open PySem PySem.Spec L2
section
variable {X : Cx} {S : Sg}
structure NeOk (X : Cx) (S : Sg) (c : Cid) (g : Fn) : Prop where
  ne : PySem.W.findIn S.K (.ref (S.ca c)) "__ne__" = some (some (.builtin "object.__ne__"))
  ob : PySem.W.subIn S.K (.ref (S.ca c)) (.type "object") = some true
  eq : CmpOk X S .Eq c g
def oNeO (tab : Cid → Option Fn) (x y : PV) : Option PV := match oCm tab x y with
  | some (.bl b) => some (.bl (!b))
  | _ => none
end
end Y
namespace Y
open PySem PySem.Spec L2
section
variable {X : Cx} {K : PySem.W.Frag} {c : Cid} {g : Fn}
end
end Y


namespace Y
open PySem PySem.Spec L2
section
variable {X : Cx} {S : Sg}
def mClear (xs : List PV) : Option (PV × List PV) := some (.non, [])
@[simp] theorem mClear_ap {xs : List PV} : mClear xs = some (.non, []) := rfl
end
end Y
namespace Y
open PySem PySem.Spec L2 PyProof.Rows
/-- xs * k, a list that can be read -/
def rRepS (K : PySem.W.Frag) : R2 := fun x y H Q => ∃ l k xs, x = .ref l ∧ y = .int k ∧ SqL K H l xs ∧ -(2 ^ 63) ≤ k ∧ k < 2 ^ 63 ∧ xs.length * k.toNat ≤ sizeLine ∧
  ∀ p, H p = none → Q (.ref p) (upd H p (.lst (List.replicate k.toNat xs).flatten))
def oRep : PV → PV → Option (List PV)
  | .lst xs, .int k => if k < 1000000 ∧ -1000000 < k ∧ xs.length * k.toNat ≤ 16777216 then some (List.replicate k.toNat xs).flatten else none
  | _, _ => none
section
variable {X : Cx} {S : Sg}
end
@[simp] theorem oRep_ap {xs : List PV} {k : Int} : oRep (.lst xs) (.int k) = if k < 1000000 ∧ -1000000 < k ∧ xs.length * k.toNat ≤ 16777216 then some (List.replicate k.toNat xs).flatten else none := rfl
end Y


namespace Y
open PySem PySem.Spec L2
/-- the second for: it adds to the list that the first one goes on with -/
noncomputable def inL (it1 : SM (List PV)) (gm : GM) (tst : SM Bool) (fe : SE) (vs : List Nat) : List PV → Rh → Option (List PV × Rh) := fun acc ρ => match it1 ρ with
  | some (.ok xs, ρ1) => lcLc (fun _ => True) gm tst fe vs xs acc (wipeR vs ρ1)
  | _ => none
open Classical in
noncomputable def lcL2 (ok : Rh → Prop) (gm : GM) (tst : SM Bool) (bd : List PV → Rh → Option (List PV × Rh)) (vs : List Nat) : List PV → List PV → Rh → Option (List PV × Rh)
  | [], acc, ρ => if ok ρ ∧ unAll vs ρ = true then some (acc, ρ) else none
  | x :: xs, acc, ρ => if ok ρ ∧ unAll vs ρ = true then (match gm x ρ with
    | none => none
    | some ρ1 => (match tst ρ1 with
      | some (.ok true, ρ2) => (match bd acc ρ2 with
        | some (acc', ρ3) => lcL2 ok gm tst bd vs xs acc' (wipeR vs ρ3)
        | none => none)
      | some (.ok false, ρ2) => lcL2 ok gm tst bd vs xs acc (wipeR vs ρ2)
      | _ => none)) else none
noncomputable def lcM2 {T : Type} (it : SM T) (vals : T → List PV) (okf : T → Rh → Prop) (gm : GM) (tst : SM Bool) (bd : List PV → Rh → Option (List PV × Rh)) (vs : List Nat) : SE := it.bind fun t => fun ρ => match lcL2 (okf t) gm tst bd vs (vals t) [] (wipeR vs ρ) with
  | some (acc, ρ') => some (.ok (.lst acc), ρ')
  | none => none
/-- the second source, for any frame -/
def xI (S : Sg) (f : SM (List PV)) : TI := fun σ H R => ∃ φ, iJ S φ W0 f σ H R
theorem PI.all {X : Cx} {S : Sg} {tg e : Expr} {f : SM (List PV)} (h : ∀ φ, JI X S φ W0 tg e f) : PI X tg e (xI S f) := ⟨fun pins s σ H R I ⟨φ, q⟩ => (h φ).run pins s σ H R I q⟩
section
variable {X : Cx} {S : Sg} {φ : Fr} {W : WX}
end
section
variable {X : Cx} {S : Sg} {φ : Fr} {W : WX} {pos : Pos}
variable {T : Type} {it : SM T} {vals : T → List PV} {okf : T → Rh → Prop} {sgf : L2.St → L2.St → Prop} {elt tg iter tg1 iter1 : Expr} {ifs ifs1 : List Expr} {scope : Scope} {own : List (Str × Nat)} {gm gm1 : GM} {is is1 vs1 : List Nat} {tst tst1 : SM Bool} {it1 : SM (List PV)} {fe : SE}
end
end Y


namespace Y
open PySem PySem.Spec L2
def PwB (i j : Int) : Prop := 0 ≤ j ∧ j ≤ 1000 ∧ i.natAbs < 2 ^ 100
noncomputable instance (i j : Int) : Decidable (PwB i j) := Classical.propDecidable _
noncomputable def oPw := oI fun i j => if PwB i j then some (i ^ j.toNat) else none
section
variable {X : Cx} {S : Sg}
end
end Y


namespace Y
open PySem PySem.Spec L2
def oIsB : PV → PV → Option PV
  | .bl a, .bl b => some (.bl (decide (a = b)))
  | _, _ => none
def oNotB : PV → PV → Option PV
  | .bl a, .bl b => some (.bl (!decide (a = b)))
  | _, _ => none
section
variable {X : Cx} {S : Sg}
end
@[simp] theorem oIsB_b {a b : Bool} : oIsB (.bl a) (.bl b) = some (.bl (decide (a = b))) := rfl
@[simp] theorem oNotB_b {a b : Bool} : oNotB (.bl a) (.bl b) = some (.bl (!decide (a = b))) := rfl
end Y


namespace Y
open PySem PySem.Spec L2 PyProof.Rows
/-- so many turns as the list in slot i is long, and one -/
def fuL (i : Nat) : Rh → Nat := fun ρ => match ρ[i]? with
  | some (.pu (.lst xs)) => xs.length + 1
  | some (.ow (.lst xs)) => xs.length + 1
  | some (.io (.lst xs)) => xs.length + 1
  | _ => 0
section
variable (kx vx t0 i0 t1 i1 : Expr) (c0 c1 : List Expr) (sc : Scope) (ps : Pos)
abbrev dC2 : Expr := .DictComp kx vx [⟨t0, i0, c0, 0⟩, ⟨t1, i1, c1, 0⟩] sc ps
end
section
variable {prog : Program} {w : World} {A : Around} {R : Result → Shared → Prop} {s : Shared} {kx vx t0 i0 t1 i1 : Expr} {c0 c1 : List Expr} {sc : Scope} {ps : Pos} {it acc : Value} {D : Addr} {env : Env}
abbrev wN (prog : Program) (w : World) (A : Around) (env : Env) (R : Result → Shared → Prop) {α : Type} (t : Sem α) (Q : α → Shared → Prop) (s : Shared) : Prop := wpAny (model prog w) A t Q (notedBy (model prog w) A env fun e s' => R (.error e) s') s
abbrev tests (env : Env) (cs : List Expr) : Sem Bool := forIn cs true fun c r => if r = true then do let k ← isTrue c env (eval c env); pure (ForInStep.yield k) else pure (ForInStep.yield r)
end
section
variable {X : Cx}
/-- what must be so of the second clause's turns, Nx behind its end -/
def tD2i (J1 : It) (g1 : TG) (tt1 : TT) (tk tv : TE) (vs1 : List Nat) (D : Addr) (σ2 : L2.St) (H4 : Hp) (Nx : Hp → Prop) : Prop := ∃ W1 : Nat → Nat → Hp → Prop, (∃ m, W1 0 m H4) ∧ ∀ j k H, W1 j k H →
  (J1.stop j H ∧ Nx H) ∨ (J1.go j H ∧ ∃ N1 : Hp → Prop, (∀ H', N1 H' → ∃ k', k' < k ∧ W1 (j + 1) k' H') ∧ ∀ x H', J1.yld j H x H' → g1 x (wipe σ2 vs1) H' fun σ3 H5 => wipe σ3 vs1 = wipe σ2 vs1 ∧ tt1 σ3 H5 fun b H6 =>
    if b = true then tk σ3 H6 fun y H7 => tv σ3 H7 fun z H8 => ∃ kvs key, y = kV key ∧ H8 D = some (.dK kvs) ∧ kvs.length < sizeLine ∧ N1 (upd H8 D (.dK (putK kvs key z))) else N1 H6)
/-- {k: v for tg in iter if .. for tg1 in iter1 if ..} -/
def tDc2 (wi : TI) (g : TG) (tt : TT) (wi1 : TI) (g1 : TG) (tt1 : TT) (tk tv : TE) (vs vs1 : List Nat) : TE := fun σ H Q => wi σ H fun J H1 => ∀ D, H1 D = none → ∃ W : Nat → Nat → Hp → Prop, (∃ m, W 0 m (upd H1 D (.dK []))) ∧ ∀ i m H, W i m H →
  (J.stop i H ∧ Q (.ref D) H) ∨ (J.go i H ∧ ∃ Nx : Hp → Prop, (∀ H', Nx H' → ∃ m', m' < m ∧ W (i + 1) m' H') ∧ ∀ x H', J.yld i H x H' → g x (wipe σ vs) H' fun σ2 H2 => wipe σ2 vs = wipe σ vs ∧ tt σ2 H2 fun b H3 =>
    if b = true then wi1 σ2 H3 fun J1 H4 => tD2i J1 g1 tt1 tk tv vs1 D σ2 H4 Nx else Nx H3)
end
abbrev DA := List Key × List PV
/-- the second for: it adds to the dict that the first one goes on with -/
noncomputable def inD (it1 : SM (List PV)) (gm : GM) (tst : SM Bool) (fk fe : SE) (vs : List Nat) : DA → Rh → Option (DA × Rh) := fun acc ρ => match it1 ρ with
  | some (.ok xs, ρ1) => dcLc (fun _ => True) gm tst fk fe vs xs acc (wipeR vs ρ1)
  | _ => none
open Classical in
noncomputable def dcL2 (ok : Rh → Prop) (gm : GM) (tst : SM Bool) (bd : DA → Rh → Option (DA × Rh)) (vs : List Nat) : List PV → DA → Rh → Option (DA × Rh)
  | [], acc, ρ => if ok ρ ∧ unAll vs ρ = true then some (acc, ρ) else none
  | x :: xs, acc, ρ => if ok ρ ∧ unAll vs ρ = true then (match gm x ρ with
    | none => none
    | some ρ1 => (match tst ρ1 with
      | some (.ok true, ρ2) => (match bd acc ρ2 with
        | some (acc', ρ3) => dcL2 ok gm tst bd vs xs acc' (wipeR vs ρ3)
        | none => none)
      | some (.ok false, ρ2) => dcL2 ok gm tst bd vs xs acc (wipeR vs ρ2)
      | _ => none)) else none
noncomputable def dcM2 {T : Type} (it : SM T) (vals : T → List PV) (okf : T → Rh → Prop) (gm : GM) (tst : SM Bool) (bd : DA → Rh → Option (DA × Rh)) (vs : List Nat) : SE := it.bind fun t => fun ρ => match dcL2 (okf t) gm tst bd vs (vals t) ([], []) (wipeR vs ρ) with
  | some (acc, ρ') => some (.ok (.dct acc.1 acc.2), ρ')
  | none => none
section
variable {X : Cx} {S : Sg} {φ : Fr} {W : WX}
variable {pos : Pos} {T : Type} {it : SM T} {vals : T → List PV} {okf : T → Rh → Prop} {sgf : L2.St → L2.St → Prop} {kx elt tg iter tg1 iter1 : Expr} {ifs ifs1 : List Expr} {scope : Scope} {own : List (Str × Nat)} {gm gm1 : GM} {is is1 vs1 : List Nat} {tst tst1 : SM Bool} {it1 : SM (List PV)} {fk fe : SE}
end
end Y


namespace L2
open PySem PySem.Spec
theorem PK.imp {X : Cx} {kws : List Keyword} {t t' : TA} (h : PK X kws t) (i : ∀ σ H Q, t' σ H Q → t σ H Q) : PK X kws t' := ⟨fun pos pins s σ H Q I q => h.run pos pins s σ H Q I (i σ H Q q)⟩
end L2
namespace Y
open PySem PySem.Spec L2 PyProof.Rows
section
variable {P : Program} {w : World} {S : Sg} {mg : Str → Option Value} {base : Heap} {k n : Nat} {N ps : List Str} {b : SS} {d : Df}
/-- a def that may be called with keywords: n0 values by position, behind them the keywords ks -/
structure DnK (P : Program) (w : World) (S : Sg) (mg : Str → Option Value) (base : Heap) (k : Nat) (f : Addr) (n0 : Nat) (ks : List Str) (g : Fn) : Prop where
  kp : PySem.W.keepIn S.K (.ref f) = true
  ex : ∃ (fd : FuncData) (ps : List Str), FnOk P w S.K mg base (L2.CX P w) k f fd ps (spOf S g) ∧ KBn S.K fd ps n0 ks (fun us ws => us ++ ws) (fun vs zs => vs ++ zs)
end
structure CalK (X : Cx) (S : Sg) (f : Addr) (n0 : Nat) (ks : List Str) (g : Fn) : Prop where
  ex : ∃ (k : Nat) (fd : FuncData) (ps : List Str), FnOk X.prog X.w X.K X.mg X.base (L2.CX X.prog X.w) k f fd ps (spOf S g) ∧ Room (k + 1) X.A ∧ KBn X.K fd ps n0 ks (fun us ws => us ++ ws) (fun vs zs => vs ++ zs)
theorem DnK.cal {P : Program} {w : World} {S : Sg} {mg : Str → Option Value} {base : Heap} {k j n0 : Nat} {f : Addr} {ks : List Str} {g : Fn} {X : Cx} (D : DnK P w S mg base k f n0 ks g) (hr : Room j X.A) (hk : k + 1 ≤ j := by decide)
    (h1 : X.prog = P := by rfl) (h2 : X.w = w := by rfl) (h3 : X.K = S.K := by rfl) (h4 : X.mg = mg := by rfl) (h5 : X.base = base := by rfl) : CalK X S f n0 ks g := by
  obtain ⟨fd, ps, F, b⟩ := D.ex
  subst h1 h2 h4 h5
  refine ⟨k, fd, ps, ?_, hr.mono hk, by rw [h3]; exact b⟩
  rw [h3]
  exact F
section
variable {X : Cx} {S : Sg} {φ : Fr} {W : WX} {e : Expr} {es : List Expr} {kws : List Keyword} {f : SE} {fa : SM (List Ar)} {fk : SM (List PV)} {pos kpos : Pos} {nm : Option Str}
/-- the keywords' values -/
abbrev JK (X : Cx) (S : Sg) (φ : Fr) (W : WX) (kws : List Keyword) (f : SM (List PV)) : Prop := PK X kws (tP S φ W f)
def eCallK (g : Fn) (n0 m : Nat) (fa : SM (List Ar)) (fk : SM (List PV)) : SM Sl := fa.bind fun as => fk.bind fun zs => fun ρ => if as.length = n0 ∧ zs.length = m then callG g zs as ρ else none
end
end Y


namespace Y
open PySem PySem.Spec L2 PyProof.Rows
section
variable {X : Cx}
end
section
variable {X : Cx} {S : Sg} {φ : Fr} {W : WX} {pos : Pos} {T : Type} {it : SM T} {vals : T → List PV} {okf : T → Rh → Prop} {sgf : L2.St → L2.St → Prop} {kx elt tg iter tg1 iter1 : Expr} {ifs ifs1 : List Expr} {scope : Scope} {own : List (Str × Nat)} {gm gm1 : GM} {is is1 vs1 : List Nat} {tst tst1 : SM Bool} {it1 : SM (List PV)} {fk fe : SE}
end
end Y


namespace Y
open PySem PySem.Spec L2 PyProof.Rows
def nkV : Option Int → V
  | none => .non
  | some i => .int i
section
variable {P : Program} {w : World} {H : Hp} {h : Heap} {a : Addr} {kvs : List (Option Int × V)} {vs : List (Option Int × Value)}
end
section
variable {X : Cx} {pins : List (Addr × Obj)} {σ : L2.St} {H : Hp} {s : Shared} {a : Addr} {kvs : List (Option Int × V)} {k : Option Int} {u r : Value} {v d : V} {A : Around} {E : Value → Shared → Prop}
end
section
variable {X : Cx} {o i e f value tg : Expr} {pos pos' apos cpos : Pos} {td ty tx tk tv : TE}
/-- d[k] -/
def tNGet (td ty : TE) : TE := fun σ H Q => td σ H fun x H1 => ty σ H1 fun y H2 => ∃ a kvs k v, x = .ref a ∧ Rd H2 a (dnO a kvs) ∧ y = nkV k ∧ valV kvs k = some v ∧ Q v H2
/-- d.get(k, x) -/
def tNGet2 (td ty tx : TE) : TE := fun σ H Q => td σ H fun x H1 => ∃ a kvs, x = .ref a ∧ Rd H1 a (dnO a kvs) ∧ ty σ H1 fun y H2 => tx σ H2 fun z H3 => ∃ kvs k, Rd H3 a (dnO a kvs) ∧ y = nkV k ∧ Q ((valV kvs k).getD z) H3
/-- d[k] = v -/
def sNPut (td ty tv : TE) : TS := fun D σ H => tv σ H fun v H1 => td σ H1 fun x H2 => ty σ H2 fun y H3 => ∃ a kvs k, x = .ref a ∧ H3 a = some (dnO a kvs) ∧ kvs.length < sizeLine ∧ y = nkV k ∧ D.nx σ (upd H3 a (dnO a (putK kvs k v)))
/-- {} -/
def tNNew : TE := fun _ H Q => ∀ p, H p = none → Q (.ref p) (upd H p (dnO p []))
/-- {k: v} -/
def tNDisp (tk tv : TE) : TE := fun σ H Q => ∀ p, H p = none → tk σ (upd H p (dnO p [])) fun x H1 => tv σ H1 fun y H2 => H2 p = some (dnO p []) ∧ ∃ k, x = nkV k ∧ Q (.ref p) (upd H2 p (dnO p [(k, y)]))
def Itn (d : Addr) (o : Obj) (kvs : List (Option Int × V)) : It :=
  ⟨fun i H => H d = some (.frz o (dnO d kvs)) ∧ i < kvs.length, fun i H x H' => H' = H ∧ ∃ k v, kvs[i]? = some (k, v) ∧ x = nkV k, fun i H => H d = some (.frz o (dnO d kvs)) ∧ kvs.length ≤ i⟩
def iNKeys (td : TE) : TI := fun σ H R => td σ H fun x H1 => ∃ d o kvs, x = .ref d ∧ H1 d = some (.frz o (dnO d kvs)) ∧ R (Itn d o kvs) H1
end

def keyN : PV → Option (Option Int)
  | .non => some none
  | .int i => some (some i)
  | _ => none
def keyW : Option Int → PV
  | none => .non
  | some i => .int i
def valN (k : Option Int) : List (Option Int) → List PV → Option PV
  | k' :: ks, x :: xs => if k' = k then some x else valN k ks xs
  | _, _ => none
def repN (k : Option Int) (y : PV) : List (Option Int) → List PV → List PV
  | k' :: ks, x :: xs => (if k' = k then y else x) :: repN k y ks xs
  | _, _ => []
def hasN (k : Option Int) (ks : List (Option Int)) : Bool := ks.any fun k' => decide (k' = k)
def putN (k : Option Int) (y : PV) (ks : List (Option Int)) (xs : List PV) : List (Option Int) × List PV := if hasN k ks = true then (ks, repN k y ks xs) else (ks ++ [k], xs ++ [y])
def ngetP (x y : PV) : Option (Option PV) := match x with
  | .dcn ks xs => (keyN y).map fun k => valN k ks xs
  | _ => none
section
variable {X : Cx} {S : Sg} {φ : Fr} {W : WX} {e a b : Expr} {f fa fb fc fy fx fd : SE} {pos : Pos} {F H : Hp}
def eNDisp (fk fv : SE) : SE := fk.bind fun k => fv.bind fun v => fun ρ => match keyN k with
  | some k => some (.ok (.dcn [k] [v]), ρ)
  | none => none
def eNgV (i : Nat) (fb : SE) : SE := fun ρ => if isB ρ i = true then (fb.bind fun y => fun ρ => match heldP ρ i with
  | some x => (match ngetP x y with
    | some (some z) => some (.ok z, ρ)
    | _ => none)
  | none => none) ρ else none
def isDn : Option PV → Bool
  | some (.dcn _ _) => true
  | _ => false
def getN (y x : PV) (o : Option PV) : SE := fun ρ => match o with
  | some z => (match ngetP z y with
    | some o => some (.ok (o.getD x), ρ)
    | none => none)
  | none => none
def eNGet2 (fr : SM Ar) (fy fx : SE) : SE := fr.bind fun a => fun ρ => if isDn (contAr ρ a) = true then (fy.bind fun y => fx.bind fun x => fun ρ => getN y x (contAr ρ a) ρ) ρ else none
def mtN (ρ : Rh) (i : Nat) : Option (List (Option Int) × List PV) := match ρ[i]? with
  | some (.ow (.dcn ks xs)) => some (ks, xs)
  | some (.io (.dcn ks xs)) => some (ks, xs)
  | _ => none
def putDN (ρ : Rh) (i : Nat) (d : List (Option Int) × List PV) : Rh := match ρ[i]? with
  | some t => ρ.set i (t.put (.dcn d.1 d.2))
  | none => ρ
theorem Stt.mtN {σ : L2.St} {F H : Hp} {ρ : Rh} {i : Nat} {ks : List (Option Int)} {xs : List PV} (s : Stt S φ ρ F σ H) (h : Y.mtN ρ i = some (ks, xs)) : ∃ t p vs, ρ[i]? = some t ∧ t.Mt (.dcn ks xs) ∧ σ[i]? = some (some (.ref p)) ∧ F p = none ∧ H p = some (dnO p (ks.zip vs)) ∧ ks.length = vs.length ∧ Reps S F xs vs := by
  unfold Y.mtN at h
  split at h
  · rename_i ks' ys q
    cases h
    obtain ⟨p, h1, h2, h3, vs, h4, h5, h6⟩ := s.slot i _ q
    exact ⟨_, p, vs, q, .ow _, h1, h2, h4, h5, h6⟩
  · rename_i ks' ys q
    cases h
    obtain ⟨p, h1, h2, h3, vs, h4, h5, h6⟩ := s.slot i _ q
    exact ⟨_, p, vs, q, .io _, h1, h2, h4, h5, h6⟩
  · cases h
def setN1 (i : Nat) (x k : PV) : SS := fun ρ => match keyN k with
  | some k => (match mtN ρ i with
    | some d => if d.2.length < 16777216 then some (.nx, putDN ρ i (putN k x d.1 d.2)) else none
    | none => none)
  | none => none
def sSetN (i : Nat) (fe fk : SE) : SS := sE fe fun x => fun ρ => if isB ρ i = true then sE fk (setN1 i x) ρ else none
def iKn (f : SE) : SM (List PV) := f.bind fun x => fun ρ => match x with
  | .dcn ks xs => some (.ok (ks.map keyW), ρ)
  | _ => none
end
end Y


namespace Y
open PySem PySem.Spec L2
section
variable {ρ : Rh} {i j : Nat} {x y : PV} {fa fb fx fy : SE} {xs ys : List PV} {ks : List (Option Int)}
@[simp] theorem keyN_n : keyN .non = some none := rfl
@[simp] theorem keyN_i {k : Int} : keyN (.int k) = some (some k) := rfl
@[simp] theorem keyW_n : keyW none = .non := rfl
@[simp] theorem keyW_i {k : Int} : keyW (some k) = .int k := rfl
@[simp] theorem ngetP_d : ngetP (.dcn ks xs) y = (keyN y).map fun k => valN k ks xs := rfl
@[simp] theorem eNDisp_ap : eNDisp fa fb ρ = bK (fa ρ) fun k => SM.bind fb fun v => opM ((keyN k).map fun k => .dcn [k] [v]) := by
  unfold eNDisp
  rw [bind_ap]
  congr 1
  funext k
  congr 1
  funext v ρ
  cases keyN k <;> rfl
def ngK (i : Nat) (y : PV) : SE := fun ρ => opM (((heldP ρ i).bind fun x => ngetP x y).join) ρ
@[simp] theorem ngK_ap : ngK i y ρ = opM (((heldP ρ i).bind fun x => ngetP x y).join) ρ := rfl
@[simp] theorem eNgV_ap : eNgV i fb ρ = if isB ρ i = true then bK (fb ρ) (ngK i) else none := by
  unfold eNgV
  split
  · rw [bind_ap]
    congr 1
    funext y ρ
    rw [ngK_ap]
    cases heldP ρ i with
    | none => rfl
    | some x =>
      show (match ngetP x y with
        | some (some z) => some (.ok z, ρ)
        | _ => none) = opM (ngetP x y).join ρ
      cases ngetP x y with
      | none => rfl
      | some o => cases o <;> rfl
  · rfl
@[simp] theorem getN_s {o' : PV} : getN y x (some o') ρ = opM ((ngetP o' y).map fun o => o.getD x) ρ := by
  show (match ngetP o' y with
    | some o => some (Ou.ok (o.getD x), ρ)
    | none => none) = _
  cases ngetP o' y <;> rfl
@[simp] theorem isDn_d : isDn (some (.dcn ks xs)) = true := rfl
@[simp] theorem eNGet2_ap {fr : SM Ar} : eNGet2 fr fa fb ρ = bK (fr ρ) fun a ρ => if isDn (contAr ρ a) = true then bK (fa ρ) fun y => SM.bind fb fun x ρ => getN y x (contAr ρ a) ρ else none := by
  unfold eNGet2
  rw [bind_ap]
  simp only [bind_ap]
def mnK (s : Option Sl) : Option (List (Option Int) × List PV) := match s with
  | some (.ow (.dcn ks xs)) => some (ks, xs)
  | some (.io (.dcn ks xs)) => some (ks, xs)
  | _ => none
@[simp] theorem mnK_ow : mnK (some (.ow (.dcn ks xs))) = some (ks, xs) := rfl
@[simp] theorem mnK_io : mnK (some (.io (.dcn ks xs))) = some (ks, xs) := rfl
@[simp] theorem mtN_ap : mtN ρ i = mnK ρ[i]? := by
  unfold mtN mnK
  split <;> simp_all
@[simp] theorem putDN_ap {d : List (Option Int) × List PV} : putDN ρ i d = ptK ρ i (.dcn d.1 d.2) ρ[i]? := rfl
def snK (i : Nat) (x : PV) (k : Option (Option Int)) (ρ : Rh) (d : Option (List (Option Int) × List PV)) : Option (Fl × Rh) := match k with
  | some k => (match d with
    | some d => if d.2.length < 16777216 then some (.nx, putDN ρ i (putN k x d.1 d.2)) else none
    | none => none)
  | none => none
@[simp] theorem snK_s {k : Option Int} {d : List (Option Int) × List PV} : snK i x (some k) ρ (some d) = if d.2.length < 16777216 then some (.nx, putDN ρ i (putN k x d.1 d.2)) else none := rfl
@[simp] theorem setN1_ap : setN1 i x y ρ = snK i x (keyN y) ρ (mtN ρ i) := rfl
@[simp] theorem sSetN_ap : sSetN i fa fb ρ = eK (fa ρ) fun x ρ => if isB ρ i = true then eK (fb ρ) (setN1 i x) else none := by
  unfold sSetN
  rw [sE_ap]
  congr 1
def knM (x : PV) : SM (List PV) := fun ρ => match x with
  | .dcn ks _ => some (.ok (ks.map keyW), ρ)
  | _ => none
@[simp] theorem knM_d : knM (.dcn ks xs) ρ = some (.ok (ks.map keyW), ρ) := rfl
@[simp] theorem iKn_ap : iKn fa ρ = bK (fa ρ) knM := by
  unfold iKn
  rw [bind_ap]
  refine congrArg _ (funext fun x => funext fun ρ => ?_)
  cases x <;> rfl
@[simp] theorem dcM2_ap {T : Type} (it : SM T) (vals : T → List PV) (okf : T → Rh → Prop) {gm : GM} {tst : SM Bool} {bd : DA → Rh → Option (DA × Rh)} {vs : List Nat} : dcM2 it vals okf gm tst bd vs ρ = bK (it ρ) fun t ρ => dcR (dcL2 (okf t) gm tst bd vs (vals t) ([], []) (wipeR vs ρ)) := by
  unfold dcM2
  rw [bind_ap]
  rfl
@[simp] theorem eCallK_ap {g : Fn} {n0 m : Nat} {fs : SM (List Ar)} {fk : SM (List PV)} : eCallK g n0 m fs fk ρ = bK (fs ρ) fun as => SM.bind fk fun zs ρ => if as.length = n0 ∧ zs.length = m then callG g zs as ρ else none := by
  unfold eCallK
  rw [bind_ap]
end
end Y


namespace Y
open PySem PySem.Spec L2
def w1K (ρ : Rh) (i : Nat) : Option Sl → Rh
  | some (.io _) => ρ
  | _ => ρ.set i .un
@[simp] theorem w1K_pu {ρ : Rh} {i : Nat} {x : PV} : w1K ρ i (some (.pu x)) = ρ.set i .un := rfl
@[simp] theorem w1K_ow {ρ : Rh} {i : Nat} {x : PV} : w1K ρ i (some (.ow x)) = ρ.set i .un := rfl
@[simp] theorem w1K_un {ρ : Rh} {i : Nat} : w1K ρ i (some .un) = ρ.set i .un := rfl
end Y


namespace Y
open PySem PySem.Spec L2
/-- a < b < c: the middle is read once, c only if the first holds -/
def eChn (op op' : PV → PV → Option PV) (fa fb fc : SE) : SE := fa.bind fun x => fb.bind fun y => fun ρ => match op x y with
  | some (.bl true) => (fc.bind fun z => fun ρ => match op' y z with
    | some w => some (.ok w, ρ)
    | none => none) ρ
  | some (.bl false) => some (.ok (.bl false), ρ)
  | _ => none
section
variable {X : Cx} {S : Sg} {φ : Fr} {W : WX} {e a b c : Expr} {es : List Expr} {fa fb fc : SE} {pos : Pos}
end
def chM (o : Option PV) (m : SE) : SE := fun ρ => match o with
  | some (.bl b) => if b = true then m ρ else some (.ok (.bl false), ρ)
  | _ => none
@[simp] theorem chM_b {b : Bool} {m : SE} {ρ : Rh} : chM (some (.bl b)) m ρ = if b = true then m ρ else some (.ok (.bl false), ρ) := rfl
@[simp] theorem eChn_ap (op op' : PV → PV → Option PV) (fa fb fc : SE) {ρ : Rh} : eChn op op' fa fb fc ρ = bK (fa ρ) fun x => SM.bind fb fun y => chM (op x y) (SM.bind fc fun z => opM (op' y z)) := by
  unfold eChn
  rw [bind_ap]
  congr 1
  funext x
  congr 1
  funext y ρ
  unfold chM
  have e : (fc.bind fun z => opM (op' y z)) = fc.bind fun z => fun ρ => match op' y z with
    | some w => some (.ok w, ρ)
    | none => none := by
    congr 1
    funext z ρ
    unfold opM
    cases op' y z <;> rfl
  rw [e]
  cases op x y with
  | none => rfl
  | some u =>
    cases u with
    | bl k => cases k <;> rfl
    | _ => rfl
def oIndexD (x y : PV) : Option PV := match x, dat y with
  | .lst xs, some d => (match dats xs with
    | some ds => if (okD d && okD (.list ds)) = true then (match ds.findIdx? fun z => PyData.eqv z d with
      | some j => some (.int (j : Nat))
      | none => none) else none
    | none => none)
  | _, _ => none
def oIndexL : List PV → Option PV
  | [x, y] => oIndexD x y
  | _ => none
def isLs : Option PV → Bool
  | some (.lst _) => true
  | _ => false
def eIdxH (fa : SM Ar) (fs : SM (List Ar)) : SE := fa.bind fun a => fun ρ => if isLs (contAr ρ a) = true then (fs.bind fun as => atEnd oIndexL (a :: as)) ρ else none
section
variable {X : Cx} {S : Sg} {φ : Fr} {W : WX} {e a b c : Expr} {es : List Expr} {fa : SM Ar} {fs : SM (List Ar)} {pos : Pos}
end
def ixK (fs : SM (List Ar)) (a : Ar) (ρ : Rh) (c : Option PV) : Option (Ou PV × Rh) := if isLs c = true then bK (fs ρ) fun as => atEnd oIndexL (a :: as) else none
def ixM (fs : SM (List Ar)) (a : Ar) : SE := fun ρ => ixK fs a ρ (contAr ρ a)
@[simp] theorem ixM_ap {fs : SM (List Ar)} {a : Ar} {ρ : Rh} : ixM fs a ρ = ixK fs a ρ (contAr ρ a) := rfl
@[simp] theorem ixK_l {fs : SM (List Ar)} {a : Ar} {ρ : Rh} {xs : List PV} : ixK fs a ρ (some (.lst xs)) = bK (fs ρ) fun as => atEnd oIndexL (a :: as) := rfl
@[simp] theorem eIdxH_ap (fa : SM Ar) (fs : SM (List Ar)) {ρ : Rh} : eIdxH fa fs ρ = bK (fa ρ) (ixM fs) := by
  unfold eIdxH
  rw [bind_ap]
  rfl
@[simp] theorem oIndexL_2 {x y : PV} : oIndexL [x, y] = oIndexD x y := rfl
end Y


namespace Y
open PySem PySem.Spec L2
def blsP : List PV → Option (List Bool)
  | [] => some []
  | .bl b :: xs => (blsP xs).map fun bs => b :: bs
  | _ => none
theorem bls_of : ∀ bs : List Bool, blsP (bs.map PV.bl) = some bs
  | [] => rfl
  | b :: bs => by
    show (blsP (bs.map PV.bl)).map (fun r => b :: r) = _
    rw [bls_of bs]
    rfl
def bAll : List PV → Option PV
  | [.lst xs] => (blsP xs).map fun bs => .bl (bs.all id)
  | _ => none
@[simp] theorem bAll_b {bs : List Bool} : bAll [.lst (bs.map .bl)] = some (.bl (bs.all id)) := by
  show (blsP (bs.map PV.bl)).map _ = _
  rw [bls_of]
  rfl
def rngD (lo : Int) (n : Nat) : List PV := (List.range n).map fun i : Nat => PV.int (lo + (i : Int) * (-1))
noncomputable def iR3 (fp : SM (List PV)) : SM (List PV) := fp.bind fun xs => fun ρ => match xs with
  | [.int i, .int j, .int c] => if RngB i ∧ RngB j ∧ c = -1 then some (.ok (rngD i (i - j).toNat), ρ) else none
  | _ => none
section
variable {X : Cx} {S : Sg} {φ : Fr} {W : WX} {a b c : Expr} {fa fb fc : SE} {pos : Pos}
end
noncomputable def rg3K (xs : List PV) (ρ : Rh) : Option (Ou (List PV) × Rh) := match xs with
  | [.int i, .int j, .int c] => if RngB i ∧ RngB j ∧ c = -1 then some (.ok (rngD i (i - j).toNat), ρ) else none
  | _ => none
@[simp] theorem rg3K_i {i j c : Int} {ρ : Rh} : rg3K [.int i, .int j, .int c] ρ = if RngB i ∧ RngB j ∧ c = -1 then some (.ok (rngD i (i - j).toNat), ρ) else none := rfl
@[simp] theorem iR3_ap {fp : SM (List PV)} {ρ : Rh} : iR3 fp ρ = bK (fp ρ) rg3K := by
  unfold iR3
  rw [bind_ap]
  rfl
end Y


namespace Y
open PySem PySem.Spec L2
/-- an answer that is a length -/
def lenR : Option (Ou Sl × Rh) → Option (Ou PV × Rh)
  | some (.ok (.pu (.int n)), ρ) => if 0 ≤ n ∧ n < 9223372036854775808 then some (.ok (.int n), ρ) else none
  | _ => none
def eLenO (tab : Cid → Option (Fn × List PV)) (fr : SM Ar) : SE := fun ρ => lenR (eMeth tab fr aNil ρ)
@[simp] theorem eLenO_ap {tab : Cid → Option (Fn × List PV)} {fr : SM Ar} {ρ : Rh} : eLenO tab fr ρ = lenR (eMeth tab fr aNil ρ) := rfl
@[simp] theorem lenR_i {n : Int} {ρ : Rh} : lenR (some (.ok (.pu (.int n)), ρ)) = if 0 ≤ n ∧ n < 9223372036854775808 then some (.ok (.int n), ρ) else none := rfl
section
variable {X : Cx} {S : Sg} {φ : Fr} {W : WX}
def rLenO (S : Sg) (tab : Cid → Option (Fn × List PV)) : List V → Hp → VK → Prop := fun vs H Q => ∃ c g dv a dx fs, tab c = some (g, dv) ∧ vs = [.ref a] ∧ H a = some (.ins (S.ca c) dx fs) ∧ spOf S g [.ref a] H (fun v H' => ∃ n : Int, v = .int n ∧ 0 ≤ n ∧ n < 9223372036854775808 ∧ Q (.int n) H') fun _ _ _ => False
end
end Y


namespace Y
open PySem PySem.Spec L2 PyProof.Rows
section
variable {X : Cx} {S : Sg} {φ : Fr} {W : WX}
structure MethOkK (X : Cx) (S : Sg) (m : Str) (c : Cid) (ks : List Str) (g : Fn) : Prop where
  cls : Cls S.K (S.ca c)
  no : m ∉ flds c
  ex : ∃ f, Meth S.K (S.ca c) m f ∧ CalK X S f 1 ks g
def methK (tab : Cid → Option Fn) (m : Nat) (fk : SM (List PV)) (a : Ar) : SM Sl := fun ρ => match contAr ρ a with
  | some (.obj c _) => (match tab c with
    | some g => (fk.bind fun zs => fun ρ => if zs.length = m then callG g zs [a] ρ else none) ρ
    | none => none)
  | _ => none
def eMethK (tab : Cid → Option Fn) (m : Nat) (fr : SM Ar) (fk : SM (List PV)) : SM Sl := fr.bind (methK tab m fk)
end
def meK2 (ρ : Rh) (m : Nat) (a : Ar) (fk : SM (List PV)) (t : Option Fn) : Option (Ou Sl × Rh) := match t with
  | some g => (fk.bind fun zs => fun ρ => if zs.length = m then callG g zs [a] ρ else none) ρ
  | none => none
def meK1 (ρ : Rh) (tab : Cid → Option Fn) (m : Nat) (a : Ar) (fk : SM (List PV)) (o : Option PV) : Option (Ou Sl × Rh) := match o with
  | some (.obj c _) => meK2 ρ m a fk (tab c)
  | _ => none
@[simp] theorem meK1_o {ρ : Rh} {tab : Cid → Option Fn} {m : Nat} {a : Ar} {fk : SM (List PV)} {c : Cid} {xs : List PV} : meK1 ρ tab m a fk (some (.obj c xs)) = meK2 ρ m a fk (tab c) := rfl
@[simp] theorem meK2_s {ρ : Rh} {m : Nat} {a : Ar} {fk : SM (List PV)} {g : Fn} : meK2 ρ m a fk (some g) = (fk.bind fun zs => fun ρ => if zs.length = m then callG g zs [a] ρ else none) ρ := rfl
@[simp] theorem methK_ap {ρ : Rh} {tab : Cid → Option Fn} {m : Nat} {a : Ar} {fk : SM (List PV)} : methK tab m fk a ρ = meK1 ρ tab m a fk (contAr ρ a) := by
  unfold methK meK1 meK2
  cases contAr ρ a with
  | none => rfl
  | some o => cases o with
    | obj c xs => rfl
    | _ => rfl
@[simp] theorem eMethK_ap {ρ : Rh} {tab : Cid → Option Fn} {m : Nat} {fr : SM Ar} {fk : SM (List PV)} : eMethK tab m fr fk ρ = bK (fr ρ) (methK tab m fk) := by
  unfold eMethK
  rw [bind_ap]
end Y


namespace Y
open PySem PySem.Spec L2 PyProof.Rows
def othL (l : List (Cid × Cid)) : Cid → Cid → Bool := fun c d => decide ((c, d) ∈ l)
def oCmX (tab : Cid → Option Fn) (oth : Cid → Cid → Bool) (x y : PV) : Option PV := match x, y with
  | .obj c xs, .obj d ys => if oth c d = true then (match tab c with
    | some g => pureG g [.obj c xs, .obj d ys]
    | none => none) else none
  | _, _ => none
@[simp] theorem othL_cons {c d c0 d0 : Cid} {l : List (Cid × Cid)} : othL ((c0, d0) :: l) c d = (decide (c = c0 ∧ d = d0) || othL l c d) := by
  unfold othL
  by_cases h : c = c0 ∧ d = d0
  · obtain ⟨rfl, rfl⟩ := h
    simp
  · by_cases h2 : (c, d) ∈ l
    · simp [h2]
    · have : ¬ (c, d) ∈ (c0, d0) :: l := fun z => by
        rcases List.mem_cons.mp z with z | z
        · cases z; exact h ⟨rfl, rfl⟩
        · exact h2 z
      simp [this, h, h2]
@[simp] theorem othL_nil {c d : Cid} : othL [] c d = false := by simp [othL]
end Y


namespace Y
open PySem PySem.Spec L2 PyProof.Rows
def insS (k : Int) : List Int → List Int
  | [] => [k]
  | x :: xs => if k < x then k :: x :: xs else if k = x then x :: xs else x :: insS k xs
def srtS : List Int → List Int
  | [] => []
  | x :: xs => insS x (srtS xs)
section
variable {P0 : Program} {w0 : World} {B0 : Around} {E0 : Value → Shared → Prop} {st : Shared}
abbrev nSet (w : World) : Obj := { cls := .type "set", dict := none, data := .set #[] 0 (.fresh 0 0 (!w.params.followText "set-order")) }
set_option maxRecDepth 100000 in
set_option maxHeartbeats 3200000 in
end
section
variable {X : Cx} {S : Sg} {φ : Fr} {W : WX}
def tSrtS (K : PySem.W.Frag) (ta : TE) : TE := fun σ H Q => ta σ H fun x H1 => ∃ (l : Addr) (ns : List Int), x = .ref l ∧ SqL K H1 l (ns.map V.int) ∧ ns.length < 64 ∧ ∀ p, H1 p = none → Q (.ref p) (upd H1 p (.lst ((srtS ns).map V.int)))
/-- the ints of a list -/
def intsO : List PV → Option (List Int)
  | [] => some []
  | .int k :: xs => (intsO xs).map (k :: ·)
  | _ :: _ => none
def eSrtS (fa : SE) : SE := fa.bind fun x => fun ρ => match x with
  | .lst xs => (match intsO xs with
    | some ns => if ns.length < 64 then some (.ok (.lst ((srtS ns).map PV.int)), ρ) else none
    | none => none)
  | _ => none
end
theorem intsO_map : ∀ ns : List Int, intsO (ns.map PV.int) = some ns
  | [] => rfl
  | n :: ns => by
    show (intsO (ns.map PV.int)).map (n :: ·) = _
    rw [intsO_map ns]
    rfl
/-- what it means, put on a list of ints -/
@[simp] theorem eSrtS_ap {fa : SE} {ρ ρ' : Rh} {ns : List Int} (h : fa ρ = some (.ok (.lst (ns.map PV.int)), ρ')) (hl : ns.length < 64) : eSrtS fa ρ = some (.ok (.lst ((srtS ns).map PV.int)), ρ') := by
  unfold eSrtS SM.bind
  rw [h]
  dsimp only
  rw [intsO_map]
  dsimp only
  rw [if_pos hl]
end Y


namespace Y
open PySem PySem.Spec L2
/-- the rooms of a function that calls itself -/
def lvR (r : Nat) : Nat → Nat
  | 0 => r + 1
  | n + 1 => lvR r n + 2
end Y


namespace Y
open PySem PySem.Spec L2
def trO : PV → Option Bool
  | .non => some false
  | .bl b => some b
  | .int i => some (decide (i ≠ 0))
  | _ => none
def orT (x : PV) (g : SE) : SE := match trO x with
  | some true => fun ρ => some (.ok x, ρ)
  | some false => g
  | none => fun _ => none
def eOrT (fa fb : SE) : SE := fa.bind fun x => orT x fb
section
variable {X : Cx} {S : Sg} {φ : Fr} {W : WX} {a b : Expr} {rest : List Expr} {fa fb : SE} {pos : Pos}
end
@[simp] theorem eOrT_ap {fa fb : SE} {ρ : Rh} : eOrT fa fb ρ = bK (fa ρ) fun x => orT x fb := rfl
@[simp] theorem orT_non {g : SE} : orT .non g = g := rfl
@[simp] theorem orT_bl {b : Bool} {g : SE} {ρ : Rh} : orT (.bl b) g ρ = if b = true then some (.ok (.bl true), ρ) else g ρ := by cases b <;> rfl
@[simp] theorem orT_int {i : Int} {g : SE} {ρ : Rh} : orT (.int i) g ρ = if i = 0 then g ρ else some (.ok (.int i), ρ) := by
  unfold orT trO
  by_cases h : i = 0
  · simp [h]
  · simp [h]
end Y


namespace Y
open PySem PySem.Spec L2 PyProof.Rows
def sParW (i j : Nat) : SS := fun ρ => (gW i (.lst []) ρ).bind fun ρ1 => (gW j (.lst []) ρ1).map fun ρ2 => (.nx, ρ2)
section
variable {X : Cx} {S : Sg} {φ : Fr} {W : WX} {pos : Pos}
end
@[simp] theorem sParW_ap {ρ : Rh} (i j : Nat) : sParW i j ρ = (gW i (.lst []) ρ).bind fun ρ1 => (gW j (.lst []) ρ1).map fun ρ2 => (.nx, ρ2) := rfl
end Y


namespace Y
open PySem PySem.Spec L2 PyProof.Rows
section
variable {X : Cx} {S : Sg}
def strRep (n : Nat) (x : Str) : Str := ⟨(List.replicate n x.cps).foldl (· ++ ·) #[]⟩
def strMul (x : Str) (n : Int) : Str := if n < 1 then Str.empty else if (n == 1 || x.length == 0) = true then x else strRep n.toNat x
def oMulS : PV → PV → Option PV
  | .str x, .int n => if 0 ≤ n ∧ n ≤ 1000 ∧ x.length ≤ 10000 then some (.str (strMul x n)) else none
  | _, _ => none
@[simp] theorem oMulS_ap {x : Str} {n : Int} : oMulS (.str x) (.int n) = if 0 ≤ n ∧ n ≤ 1000 ∧ x.length ≤ 10000 then some (.str (strMul x n)) else none := rfl
end
end Y


namespace Y
open PySem PySem.Spec L2
open PyProof.Rows (envOfC)
/-- what such a __len__ promises -/
def spLen (K : PySem.W.Frag) (C : Addr) (f : Str) : Sp := fun vs H Q _ => ∃ a dx fs l xs, vs = [.ref a] ∧ H a = some (.ins C dx fs) ∧ fs.lookup f = some (.ref l) ∧ SqL K H l xs ∧ Q (.int xs.length) H
def tLenF (K : PySem.W.Frag) (C : Addr) (f : Str) : TS := fun D σ H => ∃ a dx fs l xs, σ[0]? = some (some (.ref a)) ∧ H a = some (.ins C dx fs) ∧ fs.lookup f = some (.ref l) ∧ SqL K H l xs ∧ D.rt (.int xs.length) H
structure DnL (P : Program) (w : World) (S : Sg) (mg : Str → Option Value) (base : Heap) (k : Nat) (g C : Addr) (f : Str) : Prop where
  ex : ∃ (fd : FuncData) (ps : List Str), FnOkN P w S.K mg base (L2.CX P w) k g fd ps (fun _ => spLen S.K C f) ∧ Binds S.K fd ps []
section
variable {X : Cx} {S : Sg} {φ : Fr} {W : WX}
end
section
variable {X : Cx} {S : Sg} {φ : Fr} {W : WX} {e : Expr} {fe : SE}
/-- .. of a class with __len__ -/
structure ItrOk3 (X : Cx) (S : Sg) (c : Cid) (j : Nat) : Prop where
  ex : ∃ (f : Str) (g : Addr) (k : Nat) (fd : FuncData) (ps : List Str), (flds c)[j]? = some f ∧ Meth S.K (S.ca c) "__iter__" g ∧ FnOkN X.prog X.w X.K X.mg X.base (L2.CX X.prog X.w) k g fd ps (spIter S.K (S.ca c) f) ∧ Binds X.K fd ps [] ∧ Room (k + 4) X.A ∧ ∃ (gL : Addr) (fdL : FuncData) (psL : List Str), Meth S.K (S.ca c) "__len__" gL ∧ FnOkN X.prog X.w X.K X.mg X.base (L2.CX X.prog X.w) k gL fdL psL (fun _ => spLen S.K (S.ca c) f) ∧ Binds S.K fdL psL []
end
end Y


namespace Y
open PySem PySem.Spec L2
/-- the end of the clause: the name goes -/
def endX (i : Nat) : Option (Fl × Rh) → Option Rh
  | some (.nx, ρ) => some (ρ.set i .un)
  | _ => none
def ioS : Option Sl → Bool
  | some (.io _) => true
  | none => true
  | _ => false
open Classical in
/-- the clause does alike for every error -/
noncomputable def allX (i : Nat) (g : Addr → SS) (ρ : Rh) : Option (Fl × Rh) := if ioS ρ[i]? = true then none else if h : ∃ r, ∀ a, endX i (g a (ρ.set i (.pu (.xad a)))) = some r then some (.nx, Classical.choose h) else none
noncomputable def sTryAs (cs : List Cid) (c0 : Cid) (i : Nat) (f : SS) (h : Cid → Addr → SS) : SS := fun ρ => match f ρ with
  | some (.ex c, ρ1) => if c ∈ cs then (if isub c c0 = true then allX i (h c) ρ1 else some (.ex c, ρ1)) else none
  | r => r
/-- isinstance(e, A) -/
def eIsX (i : Nat) (a : Addr) (b : Bool) : SE := fun ρ => match ρ[i]? with
  | some (.pu (.xad a')) => if a' = a then some (.ok (.bl b), ρ) else none
  | _ => none
def W0x : WX := fun _ _ _ _ => False
section
variable {X : Cx} {S : Sg} {φ : Fr} {W : WX} {body suite : List Stmt} {b₀ : Stmt} {f : SS} {h : Cid → Addr → SS} {pos np pos' : Pos} {x n : Str}
end
theorem kExm_ok {K : PySem.W.Frag} {cs : List Cid} {c0 : Cid} (h : kExm cs c0 K = true) : ∀ c, c ∈ cs → PySem.W.exmOne (sgOf K).K (.ref ((sgOf K).ca c)) (.ref ((sgOf K).ca c0)) = some (isub c c0) := fun c hc => of_decide_eq_true (List.all_eq_true.mp h c hc)
theorem kExA_ok {K : PySem.W.Frag} {cs : List Cid} {c0 : Cid} (h : kExA cs c0 K = true) : ∀ c, c ∈ cs → PySem.W.kitOne (sgOf K).K (.ref ((sgOf K).ca c)) (.ref ((sgOf K).ca c0)) = some (isub c c0) := fun c hc => of_decide_eq_true (List.all_eq_true.mp h c hc)
theorem kExT_ok {K : PySem.W.Frag} {cs : List Cid} {n : String} (h : kExT cs n K = true) : ∀ c, c ∈ cs → PySem.W.kitOne (sgOf K).K (.ref ((sgOf K).ca c)) (.type n) = some true := fun c hc => of_decide_eq_true (List.all_eq_true.mp h c hc)
theorem kExC_ok {K : PySem.W.Frag} {cs : List Cid} (h : kExC cs K = true) : ∀ c, c ∈ cs → ExcC (sgOf K).K ((sgOf K).ca c) := fun c hc => by
  have h := List.all_eq_true.mp h c hc
  obtain ⟨h1, h⟩ := He.ba h
  obtain ⟨h2, h⟩ := He.ba h
  obtain ⟨h3, h⟩ := He.ba h
  obtain ⟨h4, h⟩ := He.ba h
  obtain ⟨h5, h⟩ := He.ba h
  obtain ⟨h6, h⟩ := He.ba h
  obtain ⟨h7, h8⟩ := He.ba h
  exact ⟨He.eqO_ok h1, of_decide_eq_true h2, of_decide_eq_true h3, h4, He.eqO_ok h5, He.eqO_ok h6, of_decide_eq_true h7, of_decide_eq_true h8⟩
end Y


namespace PySem.W
open PySem PySem.Calls PyProof.Rows
section
variable {M : Model} {A : Around} {E : Value → Shared → Prop} {s : Shared} {x C dx : Addr} {Q : Fin → Shared → Prop}
theorem yStrEq {a : Str} {t : Tok} (hx : s.heap.get? x = some (instObj C dx)) (h : Q (.done (.ret .notImplemented)) s) : wpAny M A (Builtin.«str.__eq__» ⟨[.str a t, .ref x], []⟩) Q E s := by
  obtain ⟨hp, g, d, tk, os⟩ := s
  wp_walk using wpAny_load hx
  exact h
theorem yStrNe {a : Str} {t : Tok} (hx : s.heap.get? x = some (instObj C dx)) (h : Q (.done (.ret .notImplemented)) s) : wpAny M A (Builtin.«str.__ne__» ⟨[.str a t, .ref x], []⟩) Q E s := by
  obtain ⟨hp, g, d, tk, os⟩ := s
  wp_walk using wpAny_load hx
  exact h
theorem yIntEqB {b : Bool} (hx : s.heap.get? x = some (instObj C dx)) (h : Q (.done (.ret .notImplemented)) s) : wpAny M A (Builtin.«int.__eq__» ⟨[.bool b, .ref x], []⟩) Q E s := by
  obtain ⟨hp, g, d, tk, os⟩ := s
  wp_walk using wpAny_load hx
  exact h
theorem yIntNeB {b : Bool} (hx : s.heap.get? x = some (instObj C dx)) (h : Q (.done (.ret .notImplemented)) s) : wpAny M A (Builtin.«int.__ne__» ⟨[.bool b, .ref x], []⟩) Q E s := by
  obtain ⟨hp, g, d, tk, os⟩ := s
  wp_walk using wpAny_load hx
  exact h
theorem yIntEq {b : Int} {t : Tok} (hx : s.heap.get? x = some (instObj C dx)) (h : Q (.done (.ret .notImplemented)) s) : wpAny M A (Builtin.«int.__eq__» ⟨[.int b t, .ref x], []⟩) Q E s := by
  obtain ⟨hp, g, d, tk, os⟩ := s
  wp_walk using wpAny_load hx
  exact h
theorem yIntNe {b : Int} {t : Tok} (hx : s.heap.get? x = some (instObj C dx)) (h : Q (.done (.ret .notImplemented)) s) : wpAny M A (Builtin.«int.__ne__» ⟨[.int b t, .ref x], []⟩) Q E s := by
  obtain ⟨hp, g, d, tk, os⟩ := s
  wp_walk using wpAny_load hx
  exact h
theorem yNoneEq (h : Q (.done (.ret .notImplemented)) s) : wpAny M A (Builtin.«NoneType.__eq__» ⟨[.none, .ref x], []⟩) Q E s := by
  obtain ⟨hp, g, d, tk, os⟩ := s
  wp_walk
  exact h
theorem yNoneNe (h : Q (.done (.ret .notImplemented)) s) : wpAny M A (Builtin.«NoneType.__ne__» ⟨[.none, .ref x], []⟩) Q E s := by
  obtain ⟨hp, g, d, tk, os⟩ := s
  wp_walk
  exact h
theorem yListEq {l : Addr} (hi : ∀ {R : Bool → Shared → Prop}, R false s → wpAny M A (isInstance (.ref x) (.type "list")) R E s) (h : Q (.done (.ret .notImplemented)) s) : wpAny M A (Builtin.«list.__eq__» ⟨[.ref l, .ref x], []⟩) Q E s := by
  obtain ⟨hp, g, d, tk, os⟩ := s
  wp_walk using hi
  exact h
theorem yListNe {l : Addr} (hi : ∀ {R : Bool → Shared → Prop}, R false s → wpAny M A (isInstance (.ref x) (.type "list")) R E s) (h : Q (.done (.ret .notImplemented)) s) : wpAny M A (Builtin.«list.__ne__» ⟨[.ref l, .ref x], []⟩) Q E s := by
  obtain ⟨hp, g, d, tk, os⟩ := s
  wp_walk using hi
  exact h
theorem yTupEq {l : Addr} (hi : ∀ {R : Bool → Shared → Prop}, R false s → wpAny M A (isInstance (.ref x) (.type "tuple")) R E s) (h : Q (.done (.ret .notImplemented)) s) : wpAny M A (Builtin.«tuple.__eq__» ⟨[.ref l, .ref x], []⟩) Q E s := by
  obtain ⟨hp, g, d, tk, os⟩ := s
  wp_walk using hi
  exact h
theorem yTupNe {l : Addr} (hi : ∀ {R : Bool → Shared → Prop}, R false s → wpAny M A (isInstance (.ref x) (.type "tuple")) R E s) (h : Q (.done (.ret .notImplemented)) s) : wpAny M A (Builtin.«tuple.__ne__» ⟨[.ref l, .ref x], []⟩) Q E s := by
  obtain ⟨hp, g, d, tk, os⟩ := s
  wp_walk using hi
  exact h
theorem yDctEq {l : Addr} (hi : ∀ {R : Bool → Shared → Prop}, R false s → wpAny M A (isInstance (.ref x) (.type "dict")) R E s) (h : Q (.done (.ret .notImplemented)) s) : wpAny M A (Builtin.«dict.__eq__» ⟨[.ref l, .ref x], []⟩) Q E s := by
  obtain ⟨hp, g, d, tk, os⟩ := s
  wp_walk using hi
  exact h
theorem yDctNe {l : Addr} (hi : ∀ {R : Bool → Shared → Prop}, R false s → wpAny M A (isInstance (.ref x) (.type "dict")) R E s) (h : Q (.done (.ret .notImplemented)) s) : wpAny M A (Builtin.«dict.__ne__» ⟨[.ref l, .ref x], []⟩) Q E s := by
  obtain ⟨hp, g, d, tk, os⟩ := s
  wp_walk using hi
  exact h
end
/-- kinds of things that are no own objects -/
inductive Alien (s : Shared) : Value → String → Prop where
  | none : Alien s .none "NoneType"
  | bool (b : Bool) : Alien s (.bool b) "bool"
  | int (i : Int) (t : Tok) : Alien s (.int i t) "int"
  | str (z : Str) (t : Tok) : Alien s (.str z t) "str"
  | list (a : Addr) (h : s.TypeIs (.ref a) "list") : Alien s (.ref a) "list"
  | tup (a : Addr) (h : s.TypeIs (.ref a) "tuple") : Alien s (.ref a) "tuple"
  | dct (a : Addr) (h : s.TypeIs (.ref a) "dict") : Alien s (.ref a) "dict"
section
variable {prog : Program} {w : World} {A : Around} {E : Value → Shared → Prop} {s : Shared} {K : Frag} {x C dx : Addr} {od : Option Obj} {a : Value} {T : String}
theorem Alien.typeIs (h : Alien s a T) : s.TypeIs a T := by
  cases h with
  | none => exact rfl
  | bool b => exact rfl
  | int i t => exact typeIs_int s i t
  | str z t => exact typeIs_str s z t
  | list a h => exact h
  | tup a h => exact h
  | dct a h => exact h
theorem no_inst {M : Model} {R : Bool → Shared → Prop} (X : K.In s.heap) (I : InstAt s.heap x (instObj C dx) C od) (sub : subIn K (.ref C) (.type T) = some false) (h : R false s) : wpAny M A (isInstance (.ref x) (.type T)) R E s := by
  unfold isInstance
  refine wpAny_bind (m := typeOf (.ref x)) (I.type.here ?_)
  exact (looks_subIn X sub).here h
theorem Alien.dec {op : CmpOp} (hop : op = .Eq ∨ op = .NotEq) (h : Alien s a T) (X : K.In s.heap) (I : InstAt s.heap x (instObj C dx) C od) (sub : subIn K (.ref C) (.type T) = some false) {Q : Option Value → Shared → Prop} (q : Q Option.none s) :
    wpAny (model prog w) A (tryCompare a (cmpInfo op).2.1 (.ref x)) Q E s := by
  have ty := h.typeIs
  rcases hop with rfl | rfl
  · cases h with
    | none => exact wpAny_tryCompare_declines ty PySem.F.slot_NoneType_eq_refl (wpAny_call_entry PySem.F.slot_NoneType_eq_refl ty PySem.F.entry_NoneType_eq (yNoneEq ⟨_, rfl, rfl, q⟩) (PySem.F.args_NoneType_eq_2 _ _))
    | bool b => exact wpAny_tryCompare_declines ty PySem.F.slot_bool_eq (wpAny_call_entry PySem.F.slot_bool_eq ty PySem.F.entry_int_eq (yIntEqB I.at_ ⟨_, rfl, rfl, q⟩) (PySem.F.args_int_eq_2 _ _))
    | int i t => exact wpAny_tryCompare_declines ty PySem.slot_int_eq (wpAny_call_entry PySem.slot_int_eq ty PySem.entry_int_eq (yIntEq I.at_ ⟨_, rfl, rfl, q⟩) (PySem.args_int_eq _ _))
    | str z t => exact wpAny_tryCompare_declines ty PySem.F.slot_str_eq (wpAny_call_entry PySem.F.slot_str_eq ty PySem.F.entry_str_eq (yStrEq I.at_ ⟨_, rfl, rfl, q⟩) (PySem.F.args_str_eq_2 _ _))
    | list l hl => exact wpAny_tryCompare_declines ty PySem.F.slot_list_eq (wpAny_call_entry PySem.F.slot_list_eq ty PySem.F.entry_list_eq (yListEq (no_inst X I sub) ⟨_, rfl, rfl, q⟩) (PySem.F.args_list_eq_2 _ _))
    | tup l hl => exact wpAny_tryCompare_declines ty PySem.F.slot_tuple_eq (wpAny_call_entry PySem.F.slot_tuple_eq ty PySem.F.entry_tuple_eq (yTupEq (no_inst X I sub) ⟨_, rfl, rfl, q⟩) (PySem.F.args_tuple_eq_2 _ _))
    | dct l hl => exact wpAny_tryCompare_declines ty PySem.F.slot_dict_eq (wpAny_call_entry PySem.F.slot_dict_eq ty PySem.F.entry_dict_eq (yDctEq (no_inst X I sub) ⟨_, rfl, rfl, q⟩) (PySem.F.args_dict_eq_2 _ _))
  · cases h with
    | none => exact wpAny_tryCompare_declines ty PySem.F.slot_NoneType_ne_refl (wpAny_call_entry PySem.F.slot_NoneType_ne_refl ty PySem.F.entry_NoneType_ne (yNoneNe ⟨_, rfl, rfl, q⟩) (PySem.F.args_NoneType_ne_2 _ _))
    | bool b => exact wpAny_tryCompare_declines ty PySem.F.slot_bool_ne (wpAny_call_entry PySem.F.slot_bool_ne ty PySem.F.entry_int_ne (yIntNeB I.at_ ⟨_, rfl, rfl, q⟩) (PySem.F.args_int_ne_2 _ _))
    | int i t => exact wpAny_tryCompare_declines ty PySem.F.slot_int_ne (wpAny_call_entry PySem.F.slot_int_ne ty PySem.F.entry_int_ne (yIntNe I.at_ ⟨_, rfl, rfl, q⟩) (PySem.F.args_int_ne_2 _ _))
    | str z t => exact wpAny_tryCompare_declines ty PySem.F.slot_str_ne (wpAny_call_entry PySem.F.slot_str_ne ty PySem.F.entry_str_ne (yStrNe I.at_ ⟨_, rfl, rfl, q⟩) (PySem.F.args_str_ne_2 _ _))
    | list l hl => exact wpAny_tryCompare_declines ty PySem.F.slot_list_ne (wpAny_call_entry PySem.F.slot_list_ne ty PySem.F.entry_list_ne (yListNe (no_inst X I sub) ⟨_, rfl, rfl, q⟩) (PySem.F.args_list_ne_2 _ _))
    | tup l hl => exact wpAny_tryCompare_declines ty PySem.F.slot_tuple_ne (wpAny_call_entry PySem.F.slot_tuple_ne ty PySem.F.entry_tuple_ne (yTupNe (no_inst X I sub) ⟨_, rfl, rfl, q⟩) (PySem.F.args_tuple_ne_2 _ _))
    | dct l hl => exact wpAny_tryCompare_declines ty PySem.F.slot_dict_ne (wpAny_call_entry PySem.F.slot_dict_ne ty PySem.F.entry_dict_ne (yDctNe (no_inst X I sub) ⟨_, rfl, rfl, q⟩) (PySem.F.args_dict_ne_2 _ _))
end
end PySem.W
namespace PySem.W
open PySem PySem.Calls PyProof.Rows
section
variable {prog : Program} {w : World} {A : Around} {E : Value → Shared → Prop} {s : Shared} {K : Frag} {x C f : Addr} {ox : Obj} {od : Option Obj}
end
end PySem.W
namespace Y
open PySem PySem.Spec L2 PyProof.Rows
section
variable {X : Cx} {S : Sg}
def alT : PV → Option String
  | .non => some "NoneType"
  | .bl _ => some "bool"
  | .int _ => some "int"
  | .str _ => some "str"
  | .lst _ => some "list"
  | .tup _ => some "tuple"
  | .dct _ _ => some "dict"
  | .dcn _ _ => some "dict"
  | _ => none
def alNs : List String := ["NoneType", "bool", "int", "str", "list", "tuple", "dict"]
structure AlOk (X : Cx) (S : Sg) (c : Cid) (g : Fn) : Prop where
  cls : Cls S.K (S.ca c)
  sub : ∀ n, n ∈ alNs → PySem.W.subIn S.K (.type n) (.ref (S.ca c)) = some false
  subR : ∀ n, n ∈ alNs → PySem.W.subIn S.K (.ref (S.ca c)) (.type n) = some false
  ne : PySem.W.findIn S.K (.ref (S.ca c)) "__ne__" = some (some (.builtin "object.__ne__"))
  ob : PySem.W.subIn S.K (.ref (S.ca c)) (.type "object") = some true
  ex : ∃ f, Meth S.K (S.ca c) "__eq__" f ∧ Cal X S f [] g
/-- the answer, and who is asked with what -/
inductive Ask (tab : Cid → Option Fn) : PV → PV → Fn → Cid → PV → PV → Bool → Prop where
  | same {c : Cid} {g : Fn} (h : tab c = some g) (xs ys : List PV) : Ask tab (.obj c xs) (.obj c ys) g c (.obj c xs) (.obj c ys) true
  | left {c : Cid} {g : Fn} (h : tab c = some g) (xs : List PV) (y : PV) (n : String) (e : alT y = some n) : Ask tab (.obj c xs) y g c (.obj c xs) y true
  | right {c : Cid} {g : Fn} (h : tab c = some g) (x : PV) (ys : List PV) (n : String) (e : alT x = some n) : Ask tab x (.obj c ys) g c (.obj c ys) x false
def oEqA (tab : Cid → Option Fn) (x y : PV) : Option PV := match x with
  | .obj c xs => (match tab c with
    | some g => (match y with
      | .obj d ys => if d = c then pureG g [.obj c xs, .obj d ys] else none
      | y => if (alT y).isSome = true then pureG g [.obj c xs, y] else none)
    | none => none)
  | x => if (alT x).isSome = true then (match y with
    | .obj c ys => (match tab c with
      | some g => pureG g [.obj c ys, x]
      | none => none)
    | _ => none) else none
def oNeA (tab : Cid → Option Fn) (x y : PV) : Option PV := match oEqA tab x y with
  | some (.bl b) => some (.bl (!b))
  | _ => none
end
end Y
namespace Y
open PySem PySem.Spec L2 PyProof.Rows
section
variable {X : Cx} {S : Sg} {φ : Fr} {W : WX} {e : Expr} {fe : SE}
end
end Y
namespace Y
open PySem PySem.Spec L2 PyProof.Rows
/-- tuple(xs) -/
def bTupL : List PV → Option PV
  | [.lst xs] => some (.tup xs)
  | [.tup xs] => some (.tup xs)
  | _ => none
@[simp] theorem bTupL_l {xs : List PV} : bTupL [.lst xs] = some (.tup xs) := rfl
@[simp] theorem bTupL_t {xs : List PV} : bTupL [.tup xs] = some (.tup xs) := rfl
theorem b_tupL {X : Cx} {S : Sg} (hK : X.K = S.K) : HfR X S (.type "tuple") bTupL := ⟨_, call_tuple_of, fun F H xs z vs Q s r e k => by
  unfold bTupL at e
  split at e
  · cases e
    obtain ⟨v, rfl, h⟩ := cts1 r
    obtain ⟨p, vs, rfl, h2, h3⟩ := h.list s
    refine ⟨p, vs, rfl, .inl ⟨by rw [hK]; exact h2, fun l hl => ?_⟩⟩
    have hF : F l = none := s.free hl
    exact k _ (upd F l (.tup vs)) _ (Gw.new s hl) ⟨l, vs, rfl, SqT.of upd_same, Reps.mono (same_upd hF) _ _ h3⟩
  · cases e
    obtain ⟨v, rfl, h⟩ := cts1 r
    rcases h with ⟨p, vs, rfl, h2, h3⟩ | ⟨p, rfl, h2⟩
    · exact ⟨p, vs, rfl, .inr ⟨by rw [hK]; exact SqT.same s h2, k _ F H (Gw.rfl' s) ⟨p, vs, rfl, h2, h3⟩⟩⟩
    · exact h2.elim
  · cases e⟩
end Y


namespace Y
open PySem PySem.Spec L2 PyProof.Rows
section
variable {X : Cx} {S : Sg} {φ : Fr} {W : WX} {e : Expr} {es : List Expr} {fs : SM (List Ar)} {x : Str} {p pos : Pos} {id : String}
theorem je_btH {op : List PV → Option PV} (hb : HfR X S (.type id) op) (hm : X.mg x = none) (ha : JA X S φ W (e :: es) fs) (hg : Gl X x := by rfl) (hv : bootBuiltins x = some (.type id) := by decide +kernel) (hn : x ≠ "__name__" := by decide) (hdb : (x == ("__debug__" : Str)) = false := by decide)
    (he : starEach (e :: es) X.env = (false, eval e X.env) :: starEach es X.env := by rfl) (hpl : (backTo pos (starEach es X.env)).any (·.1) = false := by rfl) : JE X S φ W (.Call (.Name x p) (e :: es) [] pos) (eBfH op fs) := by
  obtain ⟨r, h1, h2⟩ := hb
  exact (pe_callTy h1 hg hm hv ha hn hdb he hpl).imp fun σ H Q h => bfH h2 h
end
end Y
namespace Y
open PySem PySem.Spec L2 PyProof.Rows
section
variable {X : Cx} {S : Sg} {φ : Fr} {W : WX} {e b : Expr} {fa fb : SE} {pos : Pos}
/-- {k: v} with an int or a text as the key -/
def eKDisp (fk fv : SE) : SE := fk.bind fun k => fv.bind fun v => fun ρ => match keyP k with
  | some k => some (.ok (.dct [k] [v]), ρ)
  | none => none
theorem jn_kdisp (hO : ∀ p, p ∈ φ.own → φ.H p ≠ none) (hk : ∀ φ, JE X S φ W e fa) (hv : ∀ φ, JE X S φ W b fb) : JN X S φ W (.Dict [some e] [b] pos) (eKDisp fa fb) := by
  refine (pe_disp (pps_cons (tk := fun σ H Q => ∃ φ, tJ S φ W fa σ H Q) (tv := fun σ H Q => ∃ φ, tJ S φ W fb σ H Q) ⟨fun pins s σ H Q I ⟨φ', q⟩ => (hk φ').run pins s σ H Q I q⟩ ⟨fun pins s σ H Q I ⟨φ', q⟩ => (hv φ').run pins s σ H Q I q⟩ pps_nil) rfl rfl (by simp) (by show 1 ≤ 15; decide)).imp fun σ H Q ⟨ρ, F, r, s, e1, o⟩ => ?_
  intro p hp
  obtain ⟨s1, nw⟩ := s.newOwn (o := .dK []) hp
  obtain ⟨r1, e2, o2⟩ := OG.seq e1 o
  have fD : φ.F p = none := by
    cases q : φ.F p with
    | none => rfl
    | some v => exact absurd (s1.fF p v q) (by rw [nw.f]; simp)
  have noD : p ∉ φ.own := fun z => hO p z nw.h
  refine ⟨φ.plus p (.dK []), ρ, F, r1, s1.into nw upd_same, e2, ?_⟩
  obtain ⟨oa, ρ3⟩ := r1
  cases oa with
  | ex c => exact fun F' H' s' m => o2 F' H' (s'.outof nw.h) m
  | ok x =>
    intro F2 H2 s2 m2 v hv'
    obtain ⟨r2, e3, o3⟩ := o2 F2 H2 (s2.outof nw.h) m2
    obtain ⟨r3, e4, o4⟩ := OG.seq e3 o3
    refine ⟨φ.plus p (.dK []), ρ3, F2, r3, s2, e4, ?_⟩
    obtain ⟨ob, ρ4⟩ := r3
    cases ob with
    | ex c => exact fun F' H' s' m => o4 F' H' (s'.outof nw.h) m
    | ok y =>
      intro F3 H3 s3 m3 u hu
      obtain ⟨k1, k2⟩ := s3.kept fD nw.h noD
      have s4 := s3.outof nw.h
      obtain ⟨r4, e5, o5⟩ := o4 F3 H3 s4 m3
      dsimp only at e5
      cases qk : keyP x with
      | none => rw [qk] at e5; cases e5
      | some k =>
        rw [qk] at e5
        cases e5
        have ev := keyP_rep qk (Rep.mono m3 _ _ hv')
        refine ⟨k1, [(k, u)], by rw [ev]; rfl, by show 1 ≤ 15; decide, ?_⟩
        refine o5 F3 _ (s4.poke k2) (Same.refl _) p k2 ⟨[u], upd_same, rfl, Reps.cons hu Reps.nil⟩
@[simp] theorem eKDisp_ap {ρ : Rh} : eKDisp fa fb ρ = bK (fa ρ) fun k => SM.bind fb fun v => opM ((keyP k).map fun k => .dct [k] [v]) := by
  unfold eKDisp
  rw [bind_ap]
  congr 1
  funext k
  congr 1
  funext v ρ
  cases keyP k <;> rfl
end
end Y


namespace Y
open PySem PySem.Spec L2 PyProof.Rows
section
variable {X : Cx} {S : Sg} {φ : Fr} {W : WX} {e b1 b2 : Expr} {fe f1 f2 : SE} {pos : Pos}
/-- one item is stored, then g -/
def sI1 (i : Nat) (x : PV) (fk : SE) (g : SS) : SS := fun ρ => if isB ρ i = true then sE fk (fun k => fun ρ => match setI1 i x k ρ with
  | some (.nx, ρ') => g ρ'
  | r => r) ρ else none
def sSetI2 (i j : Nat) (fe f1 f2 : SE) : SS := sE fe fun x => match x with
  | .tup [a, c] => sI1 i a f1 (sI1 j c f2 fun ρ => some (.nx, ρ))
  | _ => fun _ => none
end
end Y
namespace Y
open PySem PySem.Spec L2 PyProof.Rows
def siK (r : Option (Fl × Rh)) (g : SS) : Option (Fl × Rh) := match r with
  | some (.nx, ρ') => g ρ'
  | r => r
@[simp] theorem siK_nx {ρ : Rh} {g : SS} : siK (some (.nx, ρ)) g = g ρ := rfl
@[simp] theorem sI1_ap {i : Nat} {x : PV} {fk : SE} {g : SS} {ρ : Rh} : sI1 i x fk g ρ = if isB ρ i = true then eK (fk ρ) (fun k ρ => siK (setI1 i x k ρ) g) else none := by
  unfold sI1
  rfl
@[simp] theorem sSetI2_ap {i j : Nat} {fe f1 f2 : SE} {ρ : Rh} : sSetI2 i j fe f1 f2 ρ = eK (fe ρ) (fun x => match x with
  | .tup [a, c] => sI1 i a f1 (sI1 j c f2 fun ρ => some (.nx, ρ))
  | _ => fun _ => none) := rfl
end Y


namespace Y
open PySem PySem.Spec L2 PyProof.Rows
def strsP : List PV → Option (List Str)
  | [] => some []
  | .str x :: xs => (strsP xs).map (x :: ·)
  | _ => none
theorem strsP_of : ∀ xs : List Str, strsP (xs.map PV.str) = some xs
  | [] => rfl
  | x :: xs => by
    show (strsP (xs.map PV.str)).map (x :: ·) = _
    rw [strsP_of xs]
    rfl
/-- the size of a joined text -/
def jnSz (a : Str) (ss : List Str) : Prop := (ss.map (·.length)).sum + ss.length * a.length ≤ 16777216
instance {a : Str} {ss : List Str} : Decidable (jnSz a ss) := by unfold jnSz; infer_instance
def joP (x y : PV) : Option PV := match x, y with
  | .str a, .lst ys => (match strsP ys with
    | some ss => if jnSz a ss then some (.str (Txt.join a ss)) else none
    | none => none)
  | _, _ => none
def eJoin (fo fa : SE) : SE := fo.bind fun x => match x with
  | .str a => fa.bind fun y => fun ρ => match joP (.str a) y with
    | some z => some (.ok z, ρ)
    | none => none
  | _ => fun _ => none
section
variable {X : Cx} {S : Sg} {φ : Fr} {W : WX} {o e : Expr} {fo fa : SE} {pos apos : Pos}
variable {ρ : Rh}
@[simp] theorem joP_s {a : Str} {ss : List Str} (h : jnSz a ss) : joP (.str a) (.lst (ss.map PV.str)) = some (.str (Txt.join a ss)) := by
  unfold joP
  dsimp only
  rw [strsP_of]
  dsimp only
  rw [if_pos h]
def joK (x : PV) (fa : SE) : SE := match x with
  | .str a => fa.bind fun y => opM (joP (.str a) y)
  | _ => fun _ => none
@[simp] theorem joK_s {a : Str} : joK (.str a) fa ρ = bK (fa ρ) fun y => opM (joP (.str a) y) := rfl
@[simp] theorem eJoin_ap : eJoin fo fa ρ = bK (fo ρ) fun x => joK x fa := by
  unfold eJoin
  rw [bind_ap]
  congr 1
  funext x ρ
  cases x with
  | str a =>
    show (fa.bind _) ρ = (fa.bind _) ρ
    congr 1
    funext y ρ
    cases joP (.str a) y <;> rfl
  | _ => rfl
end
end Y


namespace Y
open PySem PySem.Spec L2 PyProof.Rows
def oPart (x y : PV) : Option PV := match x, y with
  | .str a, .str b => if (b.length == 0) = false ∧ a.length ≤ 1000000 then some (.tup [.str (Txt.partition a b).1, .str (Txt.partition a b).2.1, .str (Txt.partition a b).2.2]) else none
  | _, _ => none
def oSplit (x y : PV) : Option PV := match x, y with
  | .str a, .str b => if (b.length == 0) = false ∧ a.length ≤ 1000000 then some (.lst ((Txt.split a b).map PV.str)) else none
  | _, _ => none
/-- a method of a text -/
def eMS (op : PV → PV → Option PV) (fo fa : SE) : SE := fo.bind fun x => match x with
  | .str a => fa.bind fun y => fun ρ => match op (.str a) y with
    | some z => some (.ok z, ρ)
    | none => none
  | _ => fun _ => none
def msK (op : PV → PV → Option PV) (x : PV) (fa : SE) : SE := match x with
  | .str a => fa.bind fun y => opM (op (.str a) y)
  | _ => fun _ => none
section
variable {X : Cx} {S : Sg} {φ : Fr} {W : WX} {o e : Expr} {fo fa : SE} {pos apos : Pos}
def slS (x : PV) (lo hi : Option Int) : Option PV := match x with
  | .str z => if z.length ≤ 1000000 then some (.str (cutS z lo hi)) else none
  | _ => none
def eSlS (fx : SE) (fl fh : SM (Option Int)) : SE := fx.bind fun x => fl.bind fun lo => fh.bind fun hi ρ => match slS x lo hi with
  | some z => some (.ok z, ρ)
  | none => none
def sgP (z : Str) : List PV := z.cps.toList.map fun c => PV.str ⟨#[c]⟩
def iSt (f : SE) : SM (List PV) := f.bind fun x => fun ρ => match x with
  | .str z => some (.ok (sgP z), ρ)
  | _ => none
def bIntS : List PV → Option PV
  | [.str a] => if a.length ≤ 640 then (PySem.intText? a).map PV.int else none
  | _ => none
def sgIn (n : Bool) (x y : PV) : Option PV := match x, y with
  | .str s, .str z => (match s.cps.toList with
    | [c] => some (.bl (n != decide (c ∈ z.cps.toList)))
    | _ => none)
  | _, _ => none
def sThru (f : SS) : SS := fun ρ => match f ρ with
  | some (.ex _, _) => none
  | r => r
variable {ρ : Rh}
@[simp] theorem msK_s {op : PV → PV → Option PV} {a : Str} : msK op (.str a) fa ρ = bK (fa ρ) fun y => opM (op (.str a) y) := rfl
@[simp] theorem eMS_ap {op : PV → PV → Option PV} : eMS op fo fa ρ = bK (fo ρ) fun x => msK op x fa := by
  unfold eMS
  rw [bind_ap]
  congr 1
  funext x ρ
  cases x with
  | str a =>
    show (fa.bind _) ρ = (fa.bind _) ρ
    congr 1
    funext y ρ
    unfold opM
    cases op (.str a) y <;> rfl
  | _ => rfl
@[simp] theorem eSlS_ap {fl fh : SM (Option Int)} : eSlS fo fl fh ρ = bK (fo ρ) fun x => SM.bind fl fun lo => SM.bind fh fun hi => opM (slS x lo hi) := by
  unfold eSlS
  rw [bind_ap]
  congr 1
  funext x ρ
  congr 1
  funext lo ρ
  congr 1
  funext hi ρ
  unfold opM
  cases slS x lo hi <;> rfl
def stgK : PV → SM (List PV)
  | .str z => fun ρ => some (.ok (sgP z), ρ)
  | _ => fun _ => none
@[simp] theorem stgK_s {z : Str} : stgK (.str z) ρ = some (.ok (sgP z), ρ) := rfl
@[simp] theorem iSt_ap : iSt fo ρ = bK (fo ρ) stgK := by
  unfold iSt
  rw [bind_ap]
  congr 1
  funext x ρ
  cases x <;> rfl
def thK : Option (Fl × Rh) → Option (Fl × Rh)
  | some (.ex _, _) => none
  | r => r
@[simp] theorem thK_nx : thK (some (.nx, ρ)) = some (.nx, ρ) := rfl
@[simp] theorem thK_rt {x : Sl} : thK (some (.rt x, ρ)) = some (.rt x, ρ) := rfl
@[simp] theorem sThru_ap {f : SS} : sThru f ρ = thK (f ρ) := by
  unfold sThru thK
  cases f ρ with
  | none => rfl
  | some z =>
    obtain ⟨a, r⟩ := z
    cases a <;> rfl
@[simp] theorem oPart_s {a b : Str} (hb : (b.length == 0) = false) (ha : a.length ≤ 1000000) : oPart (.str a) (.str b) = some (.tup [.str (Txt.partition a b).1, .str (Txt.partition a b).2.1, .str (Txt.partition a b).2.2]) := by
  unfold oPart
  exact if_pos ⟨hb, ha⟩
@[simp] theorem oSplit_s {a b : Str} (hb : (b.length == 0) = false) (ha : a.length ≤ 1000000) : oSplit (.str a) (.str b) = some (.lst ((Txt.split a b).map PV.str)) := by
  unfold oSplit
  exact if_pos ⟨hb, ha⟩
@[simp] theorem slS_s {z : Str} {lo hi : Option Int} (ha : z.length ≤ 1000000) : slS (.str z) lo hi = some (.str (cutS z lo hi)) := by
  unfold slS
  exact if_pos ha
end
end Y


namespace Y
open PySem PySem.Spec L2 PyProof.Rows
def inT (n : Bool) (x y : PV) : Option PV := match x, y with
  | .str s, .tup ys => (match strsP ys with
    | some ss => some (.bl (n != decide (s ∈ ss)))
    | none => none)
  | _, _ => none
section
variable {X : Cx} {S : Sg}
@[simp] theorem inT_s {n : Bool} {s : Str} {ss : List Str} : inT n (.str s) (.tup (ss.map PV.str)) = some (.bl (n != decide (s ∈ ss))) := by
  unfold inT
  dsimp only
  rw [strsP_of]
end
end Y


namespace Y
open PySem PySem.Spec L2 PyProof.Rows
def nxO : Option (Fl × Rh) → Option (Fl × Rh)
  | some (.nx, ρ) => some (.nx, ρ)
  | _ => none
def sTryC (cs : List Cid) (c0 : Cid) (f h : SS) : SS := fun ρ => match f ρ with
  | some (.ex c, ρ1) => if c ∈ cs then (if isub c c0 = true then nxO (h ρ1) else some (.ex c, ρ1)) else none
  | r => r
section
variable {X : Cx} {S : Sg} {φ : Fr} {W : WX} {body suite : List Stmt} {b₀ : Stmt} {f h : SS} {pos np pos' : Pos} {x : Str}
variable {ρ : Rh}
def tcK (cs : List Cid) (c0 : Cid) (h : SS) : Option (Fl × Rh) → Option (Fl × Rh)
  | some (.ex c, ρ1) => if c ∈ cs then (if isub c c0 = true then nxO (h ρ1) else some (.ex c, ρ1)) else none
  | r => r
@[simp] theorem tcK_nx {cs : List Cid} {c0 : Cid} : tcK cs c0 h (some (.nx, ρ)) = some (.nx, ρ) := rfl
@[simp] theorem tcK_rt {cs : List Cid} {c0 : Cid} {y : Sl} : tcK cs c0 h (some (.rt y, ρ)) = some (.rt y, ρ) := rfl
@[simp] theorem tcK_ex {cs : List Cid} {c0 c : Cid} (hc : c ∈ cs := by decide) (hi : isub c c0 = true := by decide) : tcK cs c0 h (some (.ex c, ρ)) = nxO (h ρ) := by
  show (if c ∈ cs then _ else _) = _
  rw [if_pos hc, if_pos hi]
@[simp] theorem nxO_nx : nxO (some (.nx, ρ)) = some (.nx, ρ) := rfl
@[simp] theorem sTryC_ap {cs : List Cid} {c0 : Cid} : sTryC cs c0 f h ρ = tcK cs c0 h (f ρ) := by
  unfold sTryC tcK
  cases f ρ with
  | none => rfl
  | some z =>
    obtain ⟨a, r⟩ := z
    cases a <;> rfl
end
end Y


namespace Y
open PySem PySem.Spec L2 PyProof.Rows
def tTr (f : SE) : SM Bool := f.bind fun x => fun ρ => match x with
  | .bl b => some (.ok b, ρ)
  | .lst xs => some (.ok (!xs.isEmpty), ρ)
  | _ => none
section
variable {X : Cx} {S : Sg} {φ : Fr} {W : WX} {e : Expr} {f : SE}
def trM (x : PV) : SM Bool := fun ρ => match x with
  | .bl b => some (.ok b, ρ)
  | .lst xs => some (.ok (!xs.isEmpty), ρ)
  | _ => none
variable {ρ : Rh}
@[simp] theorem trM_bl {b : Bool} : trM (.bl b) ρ = some (.ok b, ρ) := rfl
@[simp] theorem trM_l {xs : List PV} : trM (.lst xs) ρ = some (.ok (!xs.isEmpty), ρ) := rfl
@[simp] theorem tTr_ap : tTr f ρ = bK (f ρ) trM := by
  unfold tTr
  rw [bind_ap]
  rfl
end
end Y


namespace GQ
open PySem PySem.SeqAt
open AutoSeq1 (wpAny_loadPart')
open MeetsSeq MeetsSeq2 MeetsSeq3 SeqRoads2
section
variable {prog : Program} {w : World} {A : Around} {R : Result → Shared → Prop}
/-- two tuples, pair by pair equal -/
theorem tuple_eqB (l b : Addr) (items items2 : Array Value) (n n2 : Nat) (dd dd2 : Option Addr) (sl sl2 : Array (Option Value)) (hsz : items.size = items2.size) (I : Nat → Shared → Prop)
    (turn : ∀ i s, I i s → ∀ (h1 : i < items.size) (h2 : i < items2.size), wpAny (model prog w) A.in1 (eqBool items[i] items2[i]) (fun r s' => r = true ∧ I (i + 1) s') (fun e s' => R (.error e) s') s)
    (fin : ∀ i s, I i s → R (.ok (.ret (.bool true))) s) {s : Shared} (hl : s.heap.get? l = some { cls := .type "tuple", dict := dd, data := .seq items n, slots := sl }) (hb : s.heap.get? b = some { cls := .type "tuple", dict := dd2, data := .seq items2 n2, slots := sl2 }) (h : I 0 s) :
    wpAny (model prog w) A.in1 (Builtin.«tuple.__eq__» ⟨[.ref l, .ref b], []⟩) (FinOf prog w A R) (fun e s' => R (.error e) s') s := by
  have f2 := AutoSeq1.sub_tuple_tuple
  have hZ : (items.toList.zip items2.toList).length = min items.size items2.size := by simp
  obtain ⟨hp, g, d, tk, os⟩ := s
  wp_walk using wpAny_loadPart' hl, wpAny_loadPart' hb, wpAny_forIn_list _ (fun rest b s' => b.1 = none ∧ ∃ i, rest = (items.toList.zip items2.toList).drop i ∧ I i s') _
  case turn =>
    rintro ⟨y, x⟩ rest b s' ⟨hb', i, hz, hI⟩
    have hlt : i < (items.toList.zip items2.toList).length := by
      rcases Nat.lt_or_ge i (items.toList.zip items2.toList).length with h' | h'
      · exact h'
      · rw [List.drop_of_length_le h'] at hz; cases hz
    have hm : i < min items.size items2.size := hZ ▸ hlt
    have h1 : i < items.size := Nat.lt_of_lt_of_le hm (Nat.min_le_left _ _)
    have h2 : i < items2.size := Nat.lt_of_lt_of_le hm (Nat.min_le_right _ _)
    rw [List.drop_eq_getElem_cons hlt] at hz
    injection hz with hyx hrest
    have hy : y = items[i] := by have := congrArg Prod.fst hyx; simpa using this
    have hx : x = items2[i] := by have := congrArg Prod.snd hyx; simpa using this
    subst hy hx
    refine wpAny_bind (wpAny_mono (turn i s' hI h1 h2) (fun r s2 q => ?_) fun _ _ z => z)
    obtain ⟨rfl, q⟩ := q
    wp_walk
    exact ⟨rfl, i + 1, hrest, q⟩
  case fin =>
    rintro ⟨b1, b2⟩ s' ⟨hb', i, hz, hI⟩
    simp only at hb'
    subst hb'
    have hR := fin _ _ hI
    wp_walk
    simpa [Builtin.Tuple.tupleCompareSizes, hsz] using hR
  case h =>
    exact ⟨rfl, 0, by simp, h⟩
theorem rc_tupleB {E : Value → Shared → Prop} {l b : Addr} {items items2 : Array Value} {n n2 : Nat} {dd dd2 : Option Addr} {sl sl2 : Array (Option Value)} (hsz : items.size = items2.size) {Q : Value → Shared → Prop} (hu : A.units < cLine) (I : Nat → Shared → Prop)
    (turn : ∀ i s, I i s → ∀ (h1 : i < items.size) (h2 : i < items2.size), wpAny (model prog w) A.in1 (eqBool items[i] items2[i]) (fun r s' => r = true ∧ I (i + 1) s') E s)
    (fin : ∀ i s, I i s → Q (.bool true) s) {s : Shared} (hl : s.heap.get? l = some { cls := .type "tuple", dict := dd, data := .seq items n, slots := sl }) (hb : s.heap.get? b = some { cls := .type "tuple", dict := dd2, data := .seq items2 n2, slots := sl2 }) (h : I 0 s) : wpAny (model prog w) A (richCompare .Eq (.ref l) (.ref b)) Q E s := by
  refine wpAny_richCompare_same_room (op := .Eq) ⟨_, hl, rfl⟩ ⟨_, hb, rfl⟩ F.slot_tuple_eq (call_here F.slot_tuple_eq ⟨_, hl, rfl⟩ F.entry_tuple_eq (F.args_tuple_eq_2 _ _) ?_) hu
  exact tuple_eqB (R := wants (fun v s' => v ≠ .notImplemented ∧ Q v s') E) l b items items2 n n2 dd dd2 sl sl2 hsz I turn (fun i s' q => ⟨(fun x => nomatch x), fin i s' q⟩) hl hb h
end
end GQ
namespace Y
open PySem PySem.Spec L2
section
variable {X : Cx} {S : Sg}
theorem own_runI2 {f : Addr} {g : Fn} (hK : X.K = S.K) (C : Cal X S f [] g) {pins : List (Addr × Obj)} {σ : L2.St} {H : Hp} {s : Shared} {Q : VK} {vs : List V} {us : List Value} (I : Inv X pins σ H s) (r : Vals vs us) (h : spOf S g vs H Q (WE (fun _ _ _ _ => False) σ)) :
    wpAny (model X.prog X.w) X.A.in1.in1 (call (.ref f) us) (EP X pins σ Q) X.xe s := by
  obtain ⟨k, fd, ps, ds, dvs, Fo, hr, hb, hd, hv⟩ := C.ex
  have e : dvs = [] := hv H
  subst e
  have e2 : ds = [] := by cases hd; rfl
  subst e2
  have hl := Fo.len _ _ _ _ h
  have env : Env0 X.prog X.w X.K X.mg X.base X.A.in1.in1 X.stack s H := let e := I.env0
    ⟨e.frames, e.mod, e.bs, e.bsz, e.funs, e.frf, e.hok, e.bare⟩
  have hr2 : Room k X.A.in1.in1 := ⟨hr.hd, by have := hr.dp; show X.A.depth + 3 * k + 5 < _; omega, by have := hr.un; show X.A.units + 1 + 1 + 16 * k + 200 < _; omega⟩
  have b := hb s us I.kIn (by rw [List.append_nil, ← r.length, hl])
  rw [List.append_nil] at b
  refine wpAny_call (codeAny_mono (Fo.run X.A.in1.in1 X.stack s H ⟨us, []⟩ us vs _ _ hr2 env b r h) fun rs s' hq => ?_)
  cases rs with
  | error e => exact passL pins σ H s e s' I hq
  | ok fl =>
    cases fl with
    | ret u => exact I.after hq
    | next => exact hq.elim
    | brk => exact hq.elim
    | cont => exact hq.elim
theorem eqO_run2 {tab : Cid → Option Fn} (hK : X.K = S.K) (ok : ∀ c g, tab c = some g → CmpOk X S .Eq c g) (hu : X.A.units + 67 < cLine) {pins : List (Addr × Obj)} {σ : L2.St} {F H : Hp} {s : Shared} {x y : PV} {v w : V} {u t : Value} {b : Bool} (I : Inv X pins σ H s) (sm : Same F H) (r1 : Rep S F x v) (r2 : Rep S F y w) (q1 : RelV v u) (q2 : RelV w t) (e : eqO tab x y = some b) :
    wpAny (model X.prog X.w) X.A.in1.in1 (eqBool u t) (fun r s' => r = b ∧ ∃ F' H', Gw F H F' H' ∧ Inv X pins σ H' s') X.xe s := by
  have iu : X.A.in1.in1.units + 64 < cLine := by
    have : X.A.in1.in1.units ≤ X.A.units + 2 := by first | rfl | exact Nat.le_refl _ | (show X.A.units + 1 + 1 ≤ _; omega)
    omega
  unfold eqO at e
  split at e
  · rename_i d d' e1 e2
    split at e
    · rename_i h
      cases e
      obtain ⟨h1, h2⟩ := Bool.and_eq_true_iff.mp h
      obtain ⟨as, ra⟩ := Dp.reads I d v u (by rw [hK]; exact dp_rep sm x v d r1 e1) q1
      obtain ⟨bs, rb⟩ := Dp.reads I d' w t (by rw [hK]; exact dp_rep sm y w d' r2 e2) q2
      exact SeqAt.eqAt_reads d d' X.A.in1.in1 s u t as bs ra rb (SeqAt.canLay_of_shaped h1) (SeqAt.canLay_of_shaped h2) (SeqAt.room_of_shaped h1 iu) _ _ _ _ ⟨rfl, F, H, Gw.rfl' sm, I⟩
    · cases e
  · split at e
    · rename_i c xs d ys _
      split at e
      · rename_i hd
        subst hd
        split at e
        · rename_i g ht
          obtain ⟨a, dx, vs, rfl, ha, la, qa⟩ := r1
          obtain ⟨a', dy, ws, rfl, ha', la', qa'⟩ := r2
          obtain rfl : u = Value.ref a := q1
          obtain rfl : t = Value.ref a' := q2
          by_cases hab : a = a'
          · subst hab
            have bt : b = true := by
              split at e
              · cases e; rfl
              · split at e
                · rename_i h
                  obtain ⟨s1, s2, ne⟩ := h
                  rw [ha] at ha'
                  injection ha' with ha'
                  injection ha' with _ _ z
                  have z := zip_inj la la' z
                  subst z
                  exact absurd (reps_inj hK I sm xs ys vs s1 s2 qa qa') ne
                · cases e
              · cases e
            subst bt
            exact SeqAt.EqAt.same (A := X.A.in1.in1) (s := s) (.ref a) X.prog X.w X.xe _ ⟨rfl, F, H, Gw.rfl' sm, I⟩
          · have pg : pureG g [.obj d xs, .obj d ys] = some (.bl b) := by
              split at e
              · rename_i q; cases e; exact q
              · rename_i q
                split at e
                · cases e; exact q
                · cases e
              · cases e
            have ok1 := ok d g ht
            obtain ⟨f, hm, C⟩ := ok1.ex
            obtain ⟨od, J⟩ := inst_at I (sm _ _ ha)
            obtain ⟨od2, J2⟩ := inst_at I (sm _ _ ha')
            obtain ⟨m, fr⟩ := I.fr
            have sp : spOf S g [V.ref a, V.ref a'] H (fun v H' => v = .bl b ∧ ∃ F', Gw F H F' H') (WE (fun _ _ _ _ => False) σ) :=
              pure_sp (F := F) (xs := [.obj d xs, .obj d ys]) sm (Reps.cons ⟨a, dx, vs, rfl, ha, la, qa⟩ (Reps.cons ⟨a', dy, ws, rfl, ha', la', qa'⟩ Reps.nil)) pg fun u F' H' gw ru => ⟨ru, F', gw⟩
            refine GQ.eqBool_refG hab ?_
            refine PySem.W.cmp_K (op := .Eq) (by omega) fr I.ok.mod.kin J J2.type ?_ (by rw [hK]; exact hm.at_) (by rw [hK]; exact hm.fn) ?_
            · unfold PySem.W.notFirst
              simp
            · refine wpAny_mono (own_runI2 (vs := [V.ref a, V.ref a']) hK C I (.cons rfl (.cons rfl .nil)) sp) (fun r s' h => ?_) fun _ _ z => z
              obtain ⟨z, H', I', rz, ez, F', gw⟩ := h
              subst ez
              obtain rfl : r = Value.bool b := rz
              exact ⟨b, rfl, rfl, F', H', gw, I'⟩
        · cases e
      · cases e
    · rename_i d ys _
      split at e
      · rename_i g ht
        obtain ⟨a, dx, vs, rfl, ha, la, qa⟩ := r2
        obtain rfl : v = V.non := r1
        obtain rfl : u = Value.none := q1
        obtain rfl : t = Value.ref a := q2
        have pg : pureG g [.obj d ys, .non] = some (.bl b) := by
          split at e
          · rename_i q; cases e; exact q
          · cases e
        have ok1 := ok d g ht
        obtain ⟨f, hm, C⟩ := ok1.ex
        obtain ⟨od, J⟩ := inst_at I (sm _ _ ha)
        have sp : spOf S g [V.ref a, V.non] H (fun v H' => v = .bl b ∧ ∃ F', Gw F H F' H') (WE (fun _ _ _ _ => False) σ) :=
          pure_sp (F := F) (xs := [.obj d ys, .non]) sm (Reps.cons ⟨a, dx, vs, rfl, ha, la, qa⟩ (Reps.cons (show Rep S F .non V.non from rfl) Reps.nil)) pg fun u F' H' gw ru => ⟨ru, F', gw⟩
        unfold eqBool
        refine wpAny_holding ?_
        refine wpAny_ite_split (fun hab => absurd (eq_of_beq hab) nofun) (fun _ => ?_)
        refine wpAny_bind ?_
        refine wpAny_mono (E := X.xe) (Q := fun v s' => ∃ r, v = .bool r ∧ (r = b ∧ ∃ F' H', Gw F H F' H' ∧ Inv X pins σ H' s')) ?_ (fun v s' hv => ?_) fun _ _ z => z
        · refine PySem.W.yCmpRefl (op := .Eq) (by omega) I.kIn J (show s.TypeIs .none "NoneType" from rfl) (by rw [hK]; exact ok1.subN) (fun hq => wpAny_tryCompare_declines (show s.TypeIs .none "NoneType" from rfl) PySem.F.slot_NoneType_eq_refl (call_gives PySem.F.slot_NoneType_eq_refl rfl PySem.F.entry_NoneType_eq (PySem.F.args_NoneType_eq_2 _ _) (PySem.SeqAt.NoneType___eq___none_ref_0 a) ⟨rfl, hq⟩)) (by rw [hK]; exact hm.at_) (by rw [hK]; exact hm.fn) ?_
          refine wpAny_mono (own_runI2 (vs := [V.ref a, V.non]) hK C I (.cons rfl (.cons rfl .nil)) sp) (fun r s' h => ?_) fun _ _ z => z
          obtain ⟨z, H', I', rz, ez, F', gw⟩ := h
          subst ez
          obtain rfl : r = Value.bool b := rz
          exact ⟨b, rfl, rfl, F', H', gw, I'⟩
        · obtain ⟨r, rfl, q⟩ := hv
          exact wpAny_truthy_bool q
      · cases e
    · rename_i d ys _
      split at e
      · rename_i g ht
        obtain ⟨a, dx, vs, rfl, ha, la, qa⟩ := r1
        obtain rfl : w = V.non := r2
        obtain rfl : t = Value.none := q2
        obtain rfl : u = Value.ref a := q1
        have pg : pureG g [.obj d ys, .non] = some (.bl b) := by
          split at e
          · rename_i q; cases e; exact q
          · cases e
        have ok1 := ok d g ht
        obtain ⟨f, hm, C⟩ := ok1.ex
        obtain ⟨od, J⟩ := inst_at I (sm _ _ ha)
        obtain ⟨m, fr⟩ := I.fr
        have sp : spOf S g [V.ref a, V.non] H (fun v H' => v = .bl b ∧ ∃ F', Gw F H F' H') (WE (fun _ _ _ _ => False) σ) :=
          pure_sp (F := F) (xs := [.obj d ys, .non]) sm (Reps.cons ⟨a, dx, vs, rfl, ha, la, qa⟩ (Reps.cons (show Rep S F .non V.non from rfl) Reps.nil)) pg fun u F' H' gw ru => ⟨ru, F', gw⟩
        unfold eqBool
        refine wpAny_holding ?_
        refine wpAny_ite_split (fun hab => absurd (eq_of_beq hab) nofun) (fun _ => ?_)
        refine wpAny_bind ?_
        refine wpAny_mono (E := X.xe) (Q := fun v s' => ∃ r, v = .bool r ∧ (r = b ∧ ∃ F' H', Gw F H F' H' ∧ Inv X pins σ H' s')) ?_ (fun v s' hv => ?_) fun _ _ z => z
        · refine PySem.W.cmp_K (op := .Eq) (by omega) fr I.ok.mod.kin J (tySc_looks (F := F) (x := .non) (show Rep S F .non V.non from rfl) (show RelV V.non Value.none from rfl) (show tySc .non = some "NoneType" from rfl)) ?_ (by rw [hK]; exact hm.at_) (by rw [hK]; exact hm.fn) ?_
          · unfold PySem.W.notFirst
            rw [hK, ok1.sub "NoneType" (tySc_mem (x := .non) rfl)]
            simp
          · refine wpAny_mono (own_runI2 (vs := [V.ref a, V.non]) hK C I (.cons rfl (.cons rfl .nil)) sp) (fun r s' h => ?_) fun _ _ z => z
            obtain ⟨z, H', I', rz, ez, F', gw⟩ := h
            subst ez
            obtain rfl : r = Value.bool b := rz
            exact ⟨b, rfl, rfl, F', H', gw, I'⟩
        · obtain ⟨r, rfl, q⟩ := hv
          exact wpAny_truthy_bool q
      · cases e
    · cases e
open Classical in
/-- == of two items of a list, or of two tuples that are equal item by item -/
noncomputable def eqT (tab : Cid → Option Fn) (x y : PV) : Option Bool := match eqO tab x y with
  | some b => some b
  | none => match x, y with
    | .tup xs, .tup ys => if eqLs tab xs ys = some true then some true else none
    | _, _ => none
theorem eqT_run {tab : Cid → Option Fn} (hK : X.K = S.K) (ok : ∀ c g, tab c = some g → CmpOk X S .Eq c g) (hu : X.A.units + 67 < cLine) {pins : List (Addr × Obj)} {σ : L2.St} {F H : Hp} {s : Shared} {x y : PV} {v w : V} {u t : Value} {b : Bool} (I : Inv X pins σ H s) (sm : Same F H) (r1 : Rep S F x v) (r2 : Rep S F y w) (q1 : RelV v u) (q2 : RelV w t) (e : eqT tab x y = some b) :
    wpAny (model X.prog X.w) X.A.in1 (eqBool u t) (fun r s' => r = b ∧ ∃ F' H', Gw F H F' H' ∧ Inv X pins σ H' s') X.xe s := by
  unfold eqT at e
  split at e
  · rename_i b' e1
    cases e
    exact eqO_run hK ok (by omega) I sm r1 r2 q1 q2 e1
  · split at e
    · rename_i xs ys _
      split at e
      · rename_i hs
        cases e
        obtain ⟨a, vs, rfl, t1, p1⟩ := r1
        obtain ⟨a', ws, rfl, t2, p2⟩ := r2
        obtain rfl : u = Value.ref a := q1
        obtain rfl : t = Value.ref a' := q2
        by_cases hab : a = a'
        · subst hab
          exact SeqAt.EqAt.same (A := X.A.in1) (s := s) (.ref a) X.prog X.w X.xe _ ⟨rfl, F, H, Gw.rfl' sm, I⟩
        · have t1' : SqT X.K H a vs := by rw [hK]; exact SqT.same sm t1
          have t2' : SqT X.K H a' ws := by rw [hK]; exact SqT.same sm t2
          obtain ⟨its, r, ⟨⟨cls, dd, data, sl⟩, e1, c1, n, d1⟩, _⟩ := I.tuple t1'
          obtain ⟨its2, r', ⟨⟨cls2, dd2, data2, sl2⟩, e2, c2, n2, d2⟩, _⟩ := I.tuple t2'
          simp only at c1 d1 c2 d2
          subst c1 d1 c2 d2
          obtain ⟨el, ea, ei⟩ := eqLs_all hs
          have n1 : xs.length = its.length := by rw [← r.length, p1.length]
          have n2' : ys.length = its2.length := by rw [← r'.length, p2.length]
          refine GQ.eqBool_refG hab ?_
          refine GQ.rc_tupleB (I := fun _ s' => ∃ F' H', Gw F H F' H' ∧ Inv X pins σ H' s') (by rw [List.size_toArray, List.size_toArray]; omega) (show X.A.units + 1 < cLine by omega) ?_ ?_ e1 e2 ⟨F, H, Gw.rfl' sm, I⟩
          · rintro i s1 ⟨F1, H1, g1, I1⟩ h1 h2
            have g1' : i < its.length := by simpa using h1
            have g2' : i < its2.length := by simpa using h2
            have k1 : i < xs.length := by omega
            have k2 : i < ys.length := by omega
            obtain ⟨v, hv, rv⟩ := (Reps.mono g1.f _ _ p1).get (List.getElem?_eq_getElem k1)
            obtain ⟨w, hw, rw'⟩ := (Reps.mono g1.f _ _ p2).get (List.getElem?_eq_getElem k2)
            obtain ⟨u, hu1, ru⟩ := r.get hv
            obtain ⟨t, ht1, rt⟩ := r'.get hw
            have eu : its.toArray[i] = u := by
              have : its[i]? = some its.toArray[i] := by rw [List.getElem?_eq_getElem g1'] <;> simp
              rw [this] at hu1
              exact Option.some.inj hu1
            have et : its2.toArray[i] = t := by
              have : its2[i]? = some its2.toArray[i] := by rw [List.getElem?_eq_getElem g2'] <;> simp
              rw [this] at ht1
              exact Option.some.inj ht1
            rw [eu, et]
            have tr : eqAtI tab xs ys i = true := List.all_eq_true.mp ea i (List.mem_range.mpr k1)
            refine wpAny_mono (eqO_run2 hK ok hu I1 g1.fh rv rw' ru rt (ei i _ _ (List.getElem?_eq_getElem k1) (List.getElem?_eq_getElem k2))) (fun q s2 h => ?_) fun _ _ z => z
            obtain ⟨hq, F2, H2, g2, I2⟩ := h
            rw [tr] at hq
            exact ⟨hq, F2, H2, g1.trans g2, I2⟩
          · rintro i s1 ⟨F1, H1, g1, I1⟩
            exact ⟨true, rfl, rfl, F1, H1, g1, I1⟩
      · cases e
    · cases e
noncomputable def eqLs2 (tab : Cid → Option Fn) : List PV → List PV → Option Bool
  | [], [] => some true
  | x :: xs, y :: ys => match eqT tab x y, eqLs2 tab xs ys with
    | some b, some c => some (b && c)
    | _, _ => none
  | _, _ => none
noncomputable def eqL2 (tab : Cid → Option Fn) (x y : PV) : Option Bool := match x, y with
  | .lst xs, .lst ys => if xs.length = ys.length then eqLs2 tab xs ys else some false
  | _, _ => none
noncomputable def oEqL2 (tab : Cid → Option Fn) (x y : PV) : Option PV := (eqL2 tab x y).map .bl
noncomputable def oNeL2 (tab : Cid → Option Fn) (x y : PV) : Option PV := (eqL2 tab x y).map fun b => .bl (!b)
/-- the i-th answer -/
noncomputable def eqAtI2 (tab : Cid → Option Fn) (xs ys : List PV) (i : Nat) : Bool := match xs[i]?, ys[i]? with
  | some x, some y => (eqT tab x y).getD false
  | _, _ => false
theorem eqLs_all2 {tab : Cid → Option Fn} : ∀ {xs ys : List PV} {b : Bool}, eqLs2 tab xs ys = some b → xs.length = ys.length ∧ ((List.range xs.length).all (eqAtI2 tab xs ys) = b) ∧ ∀ (i : Nat) (x y : PV), xs[i]? = some x → ys[i]? = some y → eqT tab x y = some (eqAtI2 tab xs ys i)
  | [], [], b, h => by
    cases h
    exact ⟨rfl, rfl, fun i x y h _ => by simp at h⟩
  | [], y :: ys, b, h => by cases h
  | x :: xs, [], b, h => by cases h
  | x :: xs, y :: ys, b, h => by
    unfold eqLs2 at h
    split at h
    · rename_i c d h1 h2
      cases h
      obtain ⟨a1, a2, a3⟩ := eqLs_all2 h2
      have e0 : eqAtI2 tab (x :: xs) (y :: ys) 0 = c := by
        show (eqT tab x y).getD false = c
        rw [h1]
        rfl
      have es : ∀ i, eqAtI2 tab (x :: xs) (y :: ys) (i + 1) = eqAtI2 tab xs ys i := fun i => by
        unfold eqAtI2
        rw [List.getElem?_cons_succ, List.getElem?_cons_succ]
      refine ⟨by rw [List.length_cons, List.length_cons, a1], ?_, fun i z u q1 q2 => ?_⟩
      · rw [List.length_cons, List.range_succ_eq_map, List.all_cons, e0, List.all_map]
        rw [← a2]
        congr 1
      · cases i with
        | zero =>
          rw [List.getElem?_cons_zero] at q1 q2
          cases q1
          cases q2
          rw [e0, h1]
        | succ i =>
          rw [List.getElem?_cons_succ] at q1 q2
          rw [es]
          exact a3 i z u q1 q2
    · cases h
theorem lst_B2 {tab : Cid → Option Fn} (hK : X.K = S.K) (ok : ∀ c g, tab c = some g → CmpOk X S .Eq c g) (hu : X.A.units + 67 < cLine) {pins : List (Addr × Obj)} {σ : L2.St} {F H : Hp} {xs ys : List PV} {a a' : Addr} {vs ws : List V} {b : Bool}
    (l1 : SqL S.K H a vs) (l2 : SqL S.K H a' ws) (r1 : Reps S F xs vs) (r2 : Reps S F ys ws) (e : eqLs2 tab xs ys = some b) :
    GQ.ListB X.prog X.w X.A X.xe a a' xs.length (eqAtI2 tab xs ys) (fun _ s' => LpI X pins σ F H s') := by
  rintro i s' ⟨F', H', gw, I⟩
  obtain ⟨el, _, ei⟩ := eqLs_all2 e
  obtain ⟨its, r, ⟨⟨cls, dd, data, sl⟩, n, e1, c1, _, d1⟩, _⟩ := I.list (by rw [hK]; exact SqL.same gw.h l1)
  obtain ⟨its2, r', ⟨⟨cls2, dd2, data2, sl2⟩, n2, e2, c2, _, d2⟩, _⟩ := I.list (by rw [hK]; exact SqL.same gw.h l2)
  simp only at c1 d1 c2 d2
  subst c1 d1 c2 d2
  have n1 : xs.length = its.length := by rw [← r.length, r1.length]
  have n2' : ys.length = its2.length := by rw [← r'.length, r2.length]
  refine ⟨its.toArray, its2.toArray, n, n2, dd, dd2, sl, sl2, e1, e2, by rw [List.size_toArray, n1], by rw [List.size_toArray, ← n2', el], fun h1 h2 => ?_⟩
  have g1 : i < its.length := by simpa using h1
  have g2 : i < its2.length := by simpa using h2
  have k1 : i < xs.length := by omega
  have k2 : i < ys.length := by omega
  obtain ⟨v, hv, rv⟩ := (Reps.mono gw.f _ _ r1).get (List.getElem?_eq_getElem k1)
  obtain ⟨w, hw, rw'⟩ := (Reps.mono gw.f _ _ r2).get (List.getElem?_eq_getElem k2)
  obtain ⟨u, hu1, ru⟩ := r.get hv
  obtain ⟨t, ht1, rt⟩ := r'.get hw
  have eu : its.toArray[i] = u := by
    have : its[i]? = some its.toArray[i] := by rw [List.getElem?_eq_getElem g1] <;> simp
    rw [this] at hu1
    exact Option.some.inj hu1
  have et : its2.toArray[i] = t := by
    have : its2[i]? = some its2.toArray[i] := by rw [List.getElem?_eq_getElem g2] <;> simp
    rw [this] at ht1
    exact Option.some.inj ht1
  rw [eu, et]
  refine wpAny_mono (eqT_run hK ok hu I gw.fh rv rw' ru rt (ei i _ _ (List.getElem?_eq_getElem k1) (List.getElem?_eq_getElem k2))) (fun q s2 h => ?_) fun _ _ z => z
  obtain ⟨hq, F2, H2, g2, I2⟩ := h
  exact ⟨hq, F2, H2, gw.trans g2, I2⟩
theorem h_neL2 {tab : Cid → Option Fn} (hK : X.K = S.K) (hu : X.A.units + 67 < cLine) (ok : ∀ c g, tab c = some g → CmpOk X S .Eq c g) : H2 X S (compareOp .NotEq) (oNeL2 tab) := by
  refine ⟨fun v w H Q => ∃ F x y b, Same F H ∧ CtR S F H x v ∧ CtR S F H y w ∧ eqL2 tab x y = some b ∧ ∀ F' H', Gw F H F' H' → Q (.bl (!b)) H', ?_, ?_⟩
  · rintro pins s σ H v w v' w' Q I rv rw' ⟨F, x, y, b, sm, r1, r2, e, k⟩
    unfold eqL2 at e
    split at e
    · rename_i xs ys
      obtain ⟨a, vs, rfl, l1, p1⟩ := ct_list sm r1
      obtain ⟨a', ws, rfl, l2, p2⟩ := ct_list sm r2
      obtain rfl : v' = Value.ref a := rv
      obtain rfl : w' = Value.ref a' := rw'
      show wpAny _ _ (richCompare .NotEq _ _) _ _ _
      split at e
      · obtain ⟨el, ea, _⟩ := eqLs_all2 e
        refine GQ.rc_listN (by omega) (fun _ s' => LpI X pins σ F H s') (lst_B2 hK ok hu l1 l2 p1 p2 e) (fun i s' h => ?_) ⟨F, H, Gw.rfl' sm, I⟩
        obtain ⟨F', H', gw, I'⟩ := h
        rw [ea]
        exact ⟨.bl (!b), H', I', rfl, k F' H' gw⟩
      · rename_i ne
        cases e
        obtain ⟨its, r, ⟨o, n, e1, c1, _, d1⟩, _⟩ := I.list (by rw [hK]; exact l1)
        obtain ⟨its2, r', ⟨o2, n2, e2, c2, _, d2⟩, _⟩ := I.list (by rw [hK]; exact l2)
        refine SeqAt.RcNeAt.lists_lengths (items := its.toArray) (items2 := its2.toArray) ⟨o, e1, c1, n, d1⟩ ⟨o2, e2, c2, n2, d2⟩ ?_ (by omega) _ _ _ _ ⟨.bl true, H, I, rfl, k F H (Gw.rfl' sm)⟩
        rw [List.size_toArray, List.size_toArray, ← r.length, ← r'.length, ← p1.length, ← p2.length]
        simpa using ne
    · cases e
  · intro F H x y z v w Q sm r1 r2 e k
    unfold oNeL2 at e
    cases q : eqL2 tab x y with
    | none => rw [q] at e; cases e
    | some b =>
      rw [q] at e
      cases e
      exact ⟨F, x, y, b, sm, r1, r2, q, fun F' H' gw => k _ F' H' gw rfl⟩
end
end Y
namespace Y
open PySem PySem.Spec L2
theorem un67 {A : Around} {k : Nat} (hr : Room k A) : A.units + 67 < cLine := by have := hr.un; omega
theorem oNeL2_ap {tab : Cid → Option Fn} (xs ys : List PV) : oNeL2 tab (.lst xs) (.lst ys) = ((if xs.length = ys.length then eqLs2 tab xs ys else some false).map fun b => PV.bl (!b)) := rfl
/-- all items equal to themselves -/
theorem eqLs2_same {tab : Cid → Option Fn} : ∀ {xs : List PV}, (∀ x ∈ xs, eqT tab x x = some true) → eqLs2 tab xs xs = some true
  | [], _ => rfl
  | x :: xs, h => by
    unfold eqLs2
    rw [h x (List.mem_cons_self ..), eqLs2_same fun y hy => h y (List.mem_cons_of_mem _ hy)]
    rfl
theorem oNeL2_same {tab : Cid → Option Fn} {xs : List PV} (h : ∀ x ∈ xs, eqT tab x x = some true) : oNeL2 tab (.lst xs) (.lst xs) = some (.bl false) := by
  rw [oNeL2_ap, if_pos rfl, eqLs2_same h]
  rfl
theorem eqT_tup {tab : Cid → Option Fn} {xs : List PV} (h : ∀ x ∈ xs, eqO tab x x = some true) (hd : eqO tab (.tup xs) (.tup xs) = none) : eqT tab (.tup xs) (.tup xs) = some true := by
  unfold eqT
  rw [hd]
  exact if_pos (eqLs_same h)
end Y


namespace Y
open PySem PySem.Spec L2
section
variable {X : Cx} {S : Sg}
/-- two items that are equal: by an own ==, or two lists of such -/
noncomputable def eqI (tab : Cid → Option Fn) (x y : PV) : Prop := eqO tab x y = some true ∨ ∃ xs ys, x = .lst xs ∧ y = .lst ys ∧ eqLs tab xs ys = some true
open Classical in
/-- == of two tuples -/
noncomputable def oEqU (tab : Cid → Option Fn) (x y : PV) : Option PV := match x, y with
  | .tup xs, .tup ys => if xs.length = ys.length ∧ ∀ (i : Nat) (x y : PV), xs[i]? = some x → ys[i]? = some y → eqI tab x y then some (.bl true) else none
  | _, _ => none
end
end Y


namespace Y
open PySem PySem.Spec L2
open Classical in
/-- the frame of the statement -/
noncomputable def Fr.pinF (ρ : Rh) (F : Hp) (σ : L2.St) (H : Hp) (k : Nat) : Fr where
  F := F
  H := fun a => if ∃ (j : Nat) (y : PV), j ≠ k ∧ ρ[j]? = some (.ow y) ∧ σ[j]? = some (some (.ref a)) then none else H a
  pin := (List.range ρ.length).map fun i => match (ρ[i]? : Option Sl), (σ[i]? : Option (Option V)) with
    | some (Sl.io _), some (some (V.ref p)) => some p
    | some (Sl.ow _), some (some (V.ref p)) => if i = k then some p else none
    | _, _ => none
section
variable {S : Sg} {φ : Fr} {ρ : Rh} {F H : Hp} {σ : L2.St} {k : Nat}
end
def pnK (k : Nat) (r : Option (Fl × Rh)) : Option (Fl × Rh) := match r with
  | some (fl, ρ') => (match ρ'[k]? with
    | some (.io y) => some (fl, ρ'.set k (.ow y))
    | _ => none)
  | none => none
/-- slot k, if it holds an own object, is held at its place -/
def sPin (k : Nat) (f : SS) : SS := fun ρ => match ρ[k]? with
  | some (.ow x) => pnK k (f (ρ.set k (.io x)))
  | _ => f ρ
def pnS (k : Nat) (f : SS) (ρ : Rh) (s : Option Sl) : Option (Fl × Rh) := match s with
  | some (.ow x) => pnK k (f (ρ.set k (.io x)))
  | _ => f ρ
@[simp] theorem pnS_ow {k : Nat} {f : SS} {ρ : Rh} {x : PV} : pnS k f ρ (some (.ow x)) = pnK k (f (ρ.set k (.io x))) := rfl
@[simp] theorem pnS_pu {k : Nat} {f : SS} {ρ : Rh} {x : PV} : pnS k f ρ (some (.pu x)) = f ρ := rfl
@[simp] theorem pnS_io {k : Nat} {f : SS} {ρ : Rh} {x : PV} : pnS k f ρ (some (.io x)) = f ρ := rfl
@[simp] theorem sPin_ap {k : Nat} {f : SS} {ρ : Rh} : sPin k f ρ = pnS k f ρ ρ[k]? := by
  unfold sPin pnS
  rfl
def pnE (k : Nat) (fl : Fl) (ρ' : Rh) (s : Option Sl) : Option (Fl × Rh) := match s with
  | some (.io y) => some (fl, ρ'.set k (.ow y))
  | _ => none
@[simp] theorem pnK_s {k : Nat} {fl : Fl} {ρ' : Rh} : pnK k (some (fl, ρ')) = pnE k fl ρ' ρ'[k]? := by
  unfold pnK pnE
  rfl
@[simp] theorem pnE_io {k : Nat} {fl : Fl} {ρ' : Rh} {y : PV} : pnE k fl ρ' (some (.io y)) = some (fl, ρ'.set k (.ow y)) := rfl
end Y


namespace GQ
open PySem PySem.SeqAt
open AutoSeq1 (wpAny_loadPart')
open MeetsSeq MeetsSeq2 MeetsSeq3 SeqRoads2
section
variable {prog : Program} {w : World} {A : Around} {R : Result → Shared → Prop}
end
end GQ
namespace Y
open PySem PySem.Spec L2
section
variable {X : Cx} {S : Sg}
open Classical in
/-- != of two tuples -/
noncomputable def oNeU (tab : Cid → Option Fn) (x y : PV) : Option PV := match x, y with
  | .tup xs, .tup ys => if xs.length = ys.length ∧ ∀ (i : Nat) (x y : PV), xs[i]? = some x → ys[i]? = some y → eqI tab x y then some (.bl false) else none
  | _, _ => none
end
end Y


namespace Y
open PySem PySem.Spec L2 PyProof.Rows
def sParN3 (i j l : Nat) (fa : SE) (fp : SM (List PV)) : SS := sE fa fun x => sE fp fun ys => fun ρ => match ys with
  | [y, z] => (gW i x ρ).bind fun ρ1 => (gN j y ρ1).bind fun ρ2 => (gN l z ρ2).map fun ρ3 => (.nx, ρ3)
  | _ => none
section
variable {X : Cx} {S : Sg} {φ : Fr} {W : WX} {a b c : Expr} {es : List Expr} {fa fb fc : SE} {fp : SM (List PV)} {pos : Pos}
theorem JP.any (h : ∀ φ, JP X S φ W es fp) : PA X es (fun σ H Q => ∃ φ, tP S φ W fp σ H Q) := ⟨fun pos pins s σ H Q I ⟨φ, q⟩ => (h φ).run pos pins s σ H Q I q⟩
end
def parN3 (i j l : Nat) (x : PV) (ys : List PV) : SS := fun ρ => match ys with
  | [y, z] => (gW i x ρ).bind fun ρ1 => (gN j y ρ1).bind fun ρ2 => (gN l z ρ2).map fun ρ3 => (.nx, ρ3)
  | _ => none
@[simp] theorem parN3_ap {i j l : Nat} {x y z : PV} {ρ : Rh} : parN3 i j l x [y, z] ρ = (gW i x ρ).bind fun ρ1 => (gN j y ρ1).bind fun ρ2 => (gN l z ρ2).map fun ρ3 => (.nx, ρ3) := rfl
@[simp] theorem sParN3_ap {i j l : Nat} {fa : SE} {fp : SM (List PV)} {ρ : Rh} : sParN3 i j l fa fp ρ = eK (fa ρ) fun x ρ => eK (fp ρ) fun ys ρ => parN3 i j l x ys ρ := by
  unfold sParN3 sE eK
  cases fa ρ with
  | none => rfl
  | some z =>
    obtain ⟨o, ρ1⟩ := z
    cases o with
    | ex c => rfl
    | ok x =>
      dsimp only
      cases fp ρ1 with
      | none => rfl
      | some z =>
        obtain ⟨o, ρ2⟩ := z
        cases o <;> rfl
end Y


namespace Y
open PySem PySem.Spec L2
noncomputable def sForRv (k : Nat) (gm : GM) (b : SS) (fg : List Nat) : SS := fun ρ => match ρ[k]? with
  | some (.pu (.lst xs)) => forL gm b fg xs.reverse (wipeR fg ρ)
  | some (.ow (.lst xs)) => forL gm b fg xs.reverse (wipeR fg (ρ.set k (.pu (.lst xs))))
  | some (.io (.lst xs)) => forLc (ioIs k xs) gm b fg xs.reverse (wipeR fg ρ)
  | _ => none
noncomputable def frK (k : Nat) (gm : GM) (b : SS) (fg : List Nat) (s : Option Sl) (ρ : Rh) : Option (Fl × Rh) := match s with
  | some (.pu (.lst xs)) => forL gm b fg xs.reverse (wipeR fg ρ)
  | some (.ow (.lst xs)) => forL gm b fg xs.reverse (wipeR fg (ρ.set k (.pu (.lst xs))))
  | some (.io (.lst xs)) => forLc (ioIs k xs) gm b fg xs.reverse (wipeR fg ρ)
  | _ => none
section
variable {gm : GM} {ρ : Rh}
@[simp] theorem sForRv_ap {k : Nat} {b : SS} {fg : List Nat} : sForRv k gm b fg ρ = frK k gm b fg ρ[k]? ρ := by
  unfold sForRv frK
  rfl
@[simp] theorem frK_pu {k : Nat} {b : SS} {fg : List Nat} {xs : List PV} : frK k gm b fg (some (.pu (.lst xs))) ρ = forL gm b fg xs.reverse (wipeR fg ρ) := rfl
@[simp] theorem frK_ow {k : Nat} {b : SS} {fg : List Nat} {xs : List PV} : frK k gm b fg (some (.ow (.lst xs))) ρ = forL gm b fg xs.reverse (wipeR fg (ρ.set k (.pu (.lst xs)))) := rfl
@[simp] theorem frK_io {k : Nat} {b : SS} {fg : List Nat} {xs : List PV} : frK k gm b fg (some (.io (.lst xs))) ρ = forLc (ioIs k xs) gm b fg xs.reverse (wipeR fg ρ) := rfl
end
section
variable {X : Cx} {S : Sg} {φ : Fr} {W : WX} {f : SS} {sts : List Stmt} {pos p0 pc : Pos}
end
end Y


namespace Y
open PySem PySem.Spec L2
section
variable {M : Model} {C : PySem.Ctx} {E : Value → Pos → Shared → Prop}
end
section
variable {X : Cx} {S : Sg} {φ : Fr} {W : WX} {body : List Stmt} {h1 : ExceptHandler} {hs : List ExceptHandler} {pos : Pos} {f : SS}
end
end Y


namespace Y
open PySem PySem.Spec L2
section
variable {X : Cx} {S : Sg}
def oNmX (tab : Cid → Option Fn) (oth : Cid → Cid → Bool) (x y : PV) : Option PV := match oCmX tab oth x y with
  | some (.bl b) => some (.bl (!b))
  | _ => none
end
end Y


namespace Y
open PySem PySem.Spec L2
def eOrE (f g : SE) : SE := fun ρ => match f ρ with
  | none => g ρ
  | r => r
def oeK (r : Option (Ou PV × Rh)) (z : Option (Ou PV × Rh)) : Option (Ou PV × Rh) := match r with
  | none => z
  | r => r
@[simp] theorem eOrE_ap {f g : SE} {ρ : Rh} : eOrE f g ρ = oeK (f ρ) (g ρ) := by
  unfold eOrE oeK
  cases f ρ <;> rfl
@[simp] theorem oeK_n {z : Option (Ou PV × Rh)} : oeK none z = z := rfl
@[simp] theorem oeK_s {r : Ou PV × Rh} {z : Option (Ou PV × Rh)} : oeK (some r) z = some r := rfl
theorem je_two {X : Cx} {S : Sg} {φ : Fr} {W : WX} {e : Expr} {f g : SE} (h1 : JE X S φ W e f) (h2 : JE X S φ W e g) : JE X S φ W e (eOrE f g) :=
  ⟨fun pins s σ H Q I ⟨ρ, F, r, s0, e1, o⟩ => by
    unfold eOrE at e1
    cases q : f ρ with
    | none =>
      rw [q] at e1
      exact h2.run pins s σ H Q I ⟨ρ, F, r, s0, e1, o⟩
    | some z =>
      rw [q] at e1
      exact h1.run pins s σ H Q I ⟨ρ, F, r, s0, by rw [q]; exact e1, o⟩⟩
end Y


namespace Y
open PySem PySem.Spec L2 PyProof.Rows
/-- what is known of a kept error -/
def Kept (cls : Value) (d : Option Addr) (a : Addr) (h : Heap) : Prop := ∃ (oe : Obj) (vs : Array Value), h.get? a = some oe ∧ Zc cls d oe ∧ oe.data = .fields vs
section
variable {X : Cx} {pins : List (Addr × Obj)} {σ : L2.St} {H : Hp} {s : Shared}
/-- an object of ours that was not tracked is tracked -/
theorem trackX (I : Inv X pins σ H s) {a : Addr} {oe : Obj} {vs : Array Value} {ψ : Heap → Prop} (get : s.heap.get? a = some oe) (hd : oe.data = .fields vs) (na : H a = none) (new : X.s_0.heap.get? a = none) (nL : a ≠ X.env.locals)
    (np : ∀ p ∈ X.pn ++ pins, p.1 ≠ a) (ok : ψ s.heap) (st : ∀ h1 h2 : Heap, ψ h1 → (∀ o, h1.get? a = some o → h2.get? a = some o) → ψ h2) : Inv X pins σ (upd H a (.ext ψ)) s := by
  have k0 : ∀ b o, X.s_0.heap.get? b = some o → b ≠ a := fun b o e z => by rw [z, new] at e; cases e
  have kH : ∀ b u, H b = some u → b ≠ a := fun b u e z => by rw [z, na] at e; cases e
  have kc : ∀ x c, X.env.cells.lookup x = some c → c ≠ a := fun x c e z => by
    obtain ⟨v, o, ho, hc⟩ := I.cell x c e
    rw [z, get] at ho
    cases ho
    rw [hd] at hc
    cases hc
  refine ⟨I.ok, I.os, I.bare, ⟨I.base.keep, I.base.slot, fun b o e n q => ?_, I.base.there, fun b xs e => ?_, fun b o u e => ?_, fun b ps e => ?_⟩, I.loc, I.cell, ?_, fun x c e => ?_, fun p hp => ?_, fun b u e => ?_, I.len⟩
  · rw [upd_ne (k0 b o e)]
    exact I.base.free b o e n q
  · have q := I.base.tups b xs e
    rw [upd_ne (kH b _ q)]
    exact q
  · have q := I.base.frzs b o u e
    rw [upd_ne (kH b _ q)]
    exact q
  · obtain ⟨m, q⟩ := I.base.tbls b ps e
    exact ⟨m, by rw [upd_ne (kH b _ q)]; exact q⟩
  · rw [upd_ne (Ne.symm nL)]
    exact I.free
  · rw [upd_ne (kc x c e)]
    exact I.freeC x c e
  · obtain ⟨e1, e2, e3, e4, e5⟩ := I.pin p hp
    exact ⟨e1, by rw [upd_ne (np p hp)]; exact e2, e3, e4, e5⟩
  · by_cases hb : b = a
    · subst hb
      rw [upd_same] at e
      cases e
      exact ⟨ok, ⟨_, get⟩, st⟩
    · rw [upd_ne hb] at e
      exact (I.hok b u e).stay (fun c v _ q => q) (fun c q => by rw [upd_ne (kH c _ q)]; exact q) fun c xs q => by rw [upd_ne (kH c _ q)]; exact q
end
/-- what the clause 'except x as n: m = n' wishes of an error of the body: slot i is n's, slot j is m's -/
def wKeep (K : PySem.W.Frag) (c : Value) (i j : Nat) (Wo : WX) (D : Ends) : WX := fun cls d σ H =>
  ∃ b, PySem.W.exmOne K cls c = some b ∧ (b = true → ∀ a, H a = none → D.nx (((σ.set i (some (.ref a))).set j (some (.ref a))).set i none) (upd H a (.ext (Kept cls d a)))) ∧ (b = false → Wo cls d σ H)
theorem kept_st {cls : Value} {d : Option Addr} {a : Addr} : ∀ h1 h2 : Heap, Kept cls d a h1 → (∀ o, h1.get? a = some o → h2.get? a = some o) → Kept cls d a h2 := fun _ _ ⟨oe, vs, e, z, f⟩ k => ⟨oe, vs, k _ e, z, f⟩
section
variable {X : Cx} {x n m : Str} {c : Value} {i j : Nat} {body : List Stmt} {np pos pos' p1 p2 p3 : Pos} {tb : WX → TS} {Wo : WX}
theorem ps_try_keep (hs : X.stack = X.env :: X.outer) (hf : X.env.frame = some X.env.locals) (hN : X.N.Nodup) (hi : X.N[i]? = some n) (hj : X.N[j]? = some m) (hij : i ≠ j) (hln : X.env.kindOf n = some .local) (hlm : X.env.kindOf m = some .local) (hc : Names X x c) (tk : Takes X Wo) (hex : X.ex = [])
    (hnd : (n == ("__debug__" : Str)) = false) (hnc : (n == ("__classdict__" : Str)) = false) (hsw : ∀ X' : Cx, X'.env = X.env → swapsWith (.Name n p2) (some (.Name m p1)) p3.line X'.env = pure false)
    (hb : ∀ (W : WX) (pn : List (Addr × Obj)) (xe : Value → Shared → Prop), Takes (X.tr pn xe) W → PassesOwn (model X.prog X.w) X.A X.env xe → PSs (X.tr pn xe) body (tb W)) :
    PS X (.Try body [.ExceptHandler (some (.Name x np)) (some n) [.Assign [.Name m p1] (.Name n p2) p3] pos'] [] [] pos) (fun D σ H => tb (wKeep X.K c i j Wo D) D σ H) := by
  refine ⟨fun pins s0 σ H D I h => ?_⟩
  have okX := I.ok
  have frX : X.A.frames = some (X.env :: X.outer) := by rw [okX.frames, hs]
  refine wpAny_Try_except (wpAny_mono ((hb (wKeep X.K c i j Wo D) (X.pn ++ pins) (fun e s₁ => wpAny (model X.prog X.w) X.A (noteFrame e X.env) (fun _ s₂ => wpAny (model X.prog X.w) X.A (setFlight e none) (fun _ s₃ =>
    wpAny (model X.prog X.w) X.A (handleBy e X.env [.ExceptHandler (some (.Name x np)) (some n) [.Assign [.Name m p1] (.Name n p2) p3] pos']) (SP X pins D) X.xe s₃) X.xe s₂) X.xe s₁) (fun u t0 xx => ?_) PassesOwn.looking).run [] s0 σ H D (I.toTry _) h) (fun f s1 hsp => ?_) (fun e s1 he => he))
  · obtain ⟨a, B, sI, pinsI, σI, HI, cls, d, rfl, JI, nb, up, sky, na, os, ag, b, hb1, hyes, hno⟩ := xx
    have J := JI.ofTry okX
    have skyX : Sky B (X.env :: X.outer) a (Zc cls d) X.env.locals t0.heap := by rw [← hs]; exact sky
    show wpAny (model X.prog X.w) X.A (noteFrame (.ref a) X.env) _ _ _
    refine Sky.land Zc.steady frX hf skyX fun g1 fly1 up1 => ?_
    have J1 : Inv X pins σI HI { t0 with heap := g1 } := J.landed nb fly1.1 (up.trans up1) os ag
    obtain ⟨ob1, fs1, eq1, zc1, dt1⟩ := fly1.there
    -- the error is in no frame, is no pin, and is new
    have nfr : a ∉ frs (X.env :: X.outer) := fun hm => by
      obtain ⟨_, o2, e2, hnf⟩ := fly1.2.2.1.mem hm
      rw [eq1] at e2
      cases e2
      exact hnf _ dt1
    have nL : a ≠ X.env.locals := fun z => nfr (List.mem_filterMap.mpr ⟨X.env, List.mem_cons_self, by rw [hf, z]⟩)
    have nF : a ∉ X.fs := fun hm => by
      obtain ⟨e, he, q⟩ := List.mem_filterMap.mp hm
      exact nfr (List.mem_filterMap.mpr ⟨e, List.mem_cons_of_mem _ he, q⟩)
    have Ba : B.get? a = none := fly1.2.1
    have gone : ∀ b o, sI.heap.get? b = some o → b ∉ frs X.stack → b ≠ a := fun b o e nf z => by
      have := nb b o e nf
      rw [z, Ba] at this
      cases this
    have nfr2 : a ∉ frs X.stack := by rw [hs]; exact nfr
    have npin : ∀ p ∈ X.pn ++ pins, p.1 ≠ a := fun p hp z => by
      obtain ⟨e1, _⟩ := J.pin p hp
      exact gone _ _ e1 (by rw [z]; exact nfr2) z
    have new0 : X.s_0.heap.get? a = none := by
      cases q : X.s_0.heap.get? a with
      | none => rfl
      | some o =>
        obtain ⟨o2, e2⟩ := J.base.there a o q (by rw [hex]; exact fun z => nomatch z)
        exact absurd rfl (gone a o2 e2 nfr2)
    have S1 := J1.suite eq1 dt1 na nL nF
    refine wpAny_handleBy_cons (codeAny_handlers_test ?_) (by intro q; cases q)
    have lookT : PySem.W.Looks (model X.prog X.w) g1 (typeOf (.ref a)) cls := fun A Q E s k q => wpAny_typeOf_ref (k _ _ eq1) (by rw [zc1.1]; exact q)
    have lookM := PySem.W.exm_one (M := model X.prog X.w) (J1.kIn) lookT hb1
    have test : ∀ {Q : Value → Shared → Prop} {E : Value → Shared → Prop}, Q c { t0 with heap := g1 } → wpAny (model X.prog X.w) (X.A.mark (some (.ref a))) (eval (.Name x np) X.env) Q E { t0 with heap := g1 } := fun {Q E} q => by
      obtain ⟨hg, hdbg, hm | ⟨hm, hv, hnn⟩⟩ := hc
      · exact ld_glob (X := X.suite a ((a, ob1) :: (X.pn ++ pins))) S1 hg hm q hdbg
      · exact ld_blt (X := X.suite a ((a, ob1) :: (X.pn ++ pins))) S1 hg hm hv q hnn hdbg
    refine test (lookM.here ?_)
    cases b with
    | false =>
      show wpAny _ X.A (handleBy (.ref a) X.env []) _ _ _
      refine wpAny_handleBy_nil ?_
      obtain ⟨k1, k2, k3, oe, vs, T, oT, ts, he, hz, hd, h1, hr⟩ := id fly1
      unfold PySem.passOn
      refine wpAny_bind (wpAny_field he hd h1 ?_)
      rw [if_neg (show ¬ ((Value.ref T == Value.none) = true) from by simp)]
      have fin : wpAny (model X.prog X.w) X.A (setFlight (.ref a) X.env.frame) (fun _ s4 => wpAny (model X.prog X.w) X.A (throw (.ref a) : Sem Flow) (SP X pins D) X.xe s4) X.xe { t0 with heap := g1 } := by
        rw [hf]
        refine HandSPX.setFlight_upZ fly1 fun g2 held2 up2 => wpAny_throw (tk _ _ ?_)
        exact ⟨a, B, sI, pins, σI, HI, cls, d, rfl, J, nb, (up.trans up1).trans up2, .inr (.inr (by rw [hs]; exact held2)), na, os, ag, hno rfl⟩
      first
        | exact wpAny_bind (wpAny_pure (wpAny_bind fin))
        | exact wpAny_bind fin
    | true =>
      refine codeAny_handlers_suite_as ?_
      refine HandSPX.lands_againZ fly1 fun g2 fly2 up2 => ?_
      have J2 : Inv X pins σI HI { t0 with heap := g2 } := J.landed nb fly2.1 ((up.trans up1).trans up2) os ag
      obtain ⟨ob2, fs2, eq2, zc2, dt2⟩ := fly2.there
      have S2 := J2.suite eq2 dt2 na nL nF
      refine store_ok (X := X.suite a ((a, ob2) :: (X.pn ++ pins))) (v := .ref a) S2 hN hi (.inl hln) rfl (fun s5 S5 => ?_) (.inr hln)
      have il : i < σI.length := by rw [J.len]; exact (List.getElem?_eq_some_iff.mp hi).1
      have asg := ps_set (X := X.suite a ((a, ob2) :: (X.pn ++ pins))) (i := j) (x := m) (pos := p3) (pos' := p1) hN hj (.inl hlm) (pe_var (X := X.suite a ((a, ob2) :: (X.pn ++ pins))) (i := i) (x := n) (pos := p2) hi (.inl hln) hnd hnc) (hsw _ rfl) (.inr hlm)
      refine wpAny_mono ((pss_one asg).run [] s5 _ HI ⟨fun σ7 H7 => σ7 = (σI.set i (some (.ref a))).set j (some (.ref a)) ∧ H7 = HI, fun _ _ => False, fun _ _ => False, fun _ _ => False⟩ S5 ⟨.ref a, List.getElem?_set_self il, rfl, rfl⟩) (fun f s6 hsp => ?_) (fun _ _ z => False.elim z)
      cases f with
      | next =>
        obtain ⟨σ6, H6, S6, e6, e7⟩ := hsp
        subst e6 e7
        have J6 := S6.unsuite okX
        obtain ⟨h6, _⟩ := S6.pin (a, ob2) (List.mem_append_left _ List.mem_cons_self)
        have T6 := trackX J6 h6 dt2 na new0 nL npin (ψ := Kept cls d a) ⟨ob2, fs2, h6, zc2, dt2⟩ kept_st
        exact gone_ok T6 hN hi hln fun s7 J7 => ⟨_, _, J7, hyes rfl a na⟩
      | brk => obtain ⟨_, _, _, z⟩ := hsp; exact z.elim
      | cont => obtain ⟨_, _, _, z⟩ := hsp; exact z.elim
      | ret u => obtain ⟨_, _, _, _, _, z⟩ := hsp; exact z.elim
  · cases f with
    | next =>
      obtain ⟨σ1, H1, J1, q⟩ := hsp
      exact wpAny_execs_nil ⟨σ1, H1, J1.ofTry okX, q⟩
    | brk =>
      obtain ⟨σ1, H1, J1, q⟩ := hsp
      exact ⟨σ1, H1, J1.ofTry okX, q⟩
    | cont =>
      obtain ⟨σ1, H1, J1, q⟩ := hsp
      exact ⟨σ1, H1, J1.ofTry okX, q⟩
    | ret u =>
      obtain ⟨v, σ1, H1, J1, r, q⟩ := hsp
      exact ⟨v, σ1, H1, J1.ofTry okX, r, q⟩
end

def keepE (i j : Nat) (c : Cid) (ρ : Rh) : Option (Fl × Rh) := some (.nx, (ρ.set j (.pu (.err c))).set i .un)
def sTryKeep (cs : List Cid) (c0 : Cid) (i j : Nat) (f : SS) : SS := fun ρ => match f ρ with
  | some (.ex c, ρ1) => if c ∈ cs then (if isub c c0 = true then keepE i j c ρ1 else some (.ex c, ρ1)) else none
  | r => r
section
variable {X : Cx} {S : Sg} {φ : Fr} {W : WX} {body : List Stmt} {f : SS} {pos np pos' p1 p2 p3 : Pos} {x n m : Str}
/-- nothing of ours stands at a new place -/
theorem Stt.fresh {ρ : Rh} {F H : Hp} {σ : L2.St} {a : Addr} (s : Stt S φ ρ F σ H) (ha : H a = none) : Nw φ ρ F σ a where
  f := s.same.free ha
  h := by
    cases q : φ.H a with
    | none => rfl
    | some o =>
      by_cases z : a ∈ φ.own
      · exact absurd ha (s.k3 a z)
      · have := s.k1 a o q z
        rw [ha] at this
        cases this
  no := fun i t y e mt z => by
    obtain ⟨p, h1, h2, h3, h4⟩ := s.mt e mt
    rw [z] at h1
    cases h1
    obtain ⟨o, ho⟩ := h3.there
    rw [ha] at ho
    cases ho
theorem js_tryKeep {cs : List Cid} {c0 : Cid} (i j : Nat) (tk : Takes X W) (hN : X.N.Nodup) (hK : X.K = S.K) (E : ∀ c, c ∈ cs → PySem.W.exmOne S.K (.ref (S.ca c)) (.ref (S.ca c0)) = some (isub c c0)) (gC : X.mg x = some (.ref (S.ca c0)))
    (hb : ∀ (W' : WX) (pn : List (Addr × Obj)) (xe : Value → Shared → Prop), Takes (X.tr pn xe) W' → JSs (X.tr pn xe) S φ W' body f)
    (hs : X.stack = X.env :: X.outer := by rfl) (hf : X.env.frame = some X.env.locals := by rfl) (hi : X.N[i]? = some n := by rfl) (hj : X.N[j]? = some m := by rfl) (hij : i ≠ j := by decide) (hln : X.env.kindOf n = some .local := by rfl) (hlm : X.env.kindOf m = some .local := by rfl)
    (hg : Gl X x := by rfl) (hdb : (x == ("__debug__" : Str)) = false := by decide) (hex : X.ex = [] := by rfl) (hnd : (n == ("__debug__" : Str)) = false := by decide) (hnc : (n == ("__classdict__" : Str)) = false := by decide)
    (hsw : ∀ X' : Cx, X'.env = X.env → swapsWith (.Name n p2) (some (.Name m p1)) p3.line X'.env = pure false := by intro _ _; rfl) :
    JS X S φ W (.Try body [.ExceptHandler (some (.Name x np)) (some n) [.Assign [.Name m p1] (.Name n p2) p3] pos'] [] [] pos) (sTryKeep cs c0 i j f) :=
  (ps_try_keep hs hf hN hi hj hij hln hlm ⟨hg, hdb, .inl gC⟩ tk hex hnd hnc hsw (fun W' pn xe t _ => hb W' pn xe t)).imp fun D σ H ⟨ρ, F, r, s, e1, o⟩ => by
    unfold sTryKeep at e1
    cases q : f ρ with
    | none => rw [q] at e1; cases e1
    | some z =>
      obtain ⟨a, ρ1⟩ := z
      rw [q] at e1
      refine ⟨ρ, F, _, s, q, ?_⟩
      cases a with
      | nx => cases e1; exact o
      | bk => cases e1; exact o
      | ct => cases e1; exact o
      | rt x => cases e1; exact o
      | ex c =>
        dsimp only at e1
        split at e1
        case isFalse => cases e1
        case isTrue hc =>
        intro F1 σ1 H1 s1 m1
        refine ⟨isub c c0, by rw [hK]; exact E c hc, fun hb1 a ha => ?_, fun hb1 => ?_⟩
        · rw [if_pos hb1] at e1
          cases e1
          have nw := s1.fresh ha
          obtain ⟨fr, s2⟩ := s1.freezeAs (o := .ext (Kept (.ref (S.ca c)) none a)) nw.f nw.h nw.no
          have s3 := s2.setPu (i := i) (v := .ref a) (show Rep S _ (.xad a) (.ref a) from rfl)
          have s4 := s3.setPu (i := j) (x := .err c) (v := .ref a) ⟨a, _, rfl, upd_same, fun h ⟨oe, vs, e, z, d⟩ => ⟨oe, vs, e, z.1, z.2, d⟩⟩
          have s5 := s4.forget (i := i)
          have er : ((ρ1.set i (.pu (.xad a))).set j (.pu (.err c))).set i .un = (ρ1.set j (.pu (.err c))).set i .un := by rw [List.set_comm _ _ hij, List.set_set]
          rw [er] at s5
          refine o _ _ _ (s5.congr (by simpa using s5.len) fun k t e ne => ?_) (m1.trans fr)
          by_cases hk : k = i
          · subst hk
            by_cases hl : k < (ρ1.set j (.pu (.err c))).length
            · rw [List.getElem?_set_self hl] at e
              cases e
              exact absurd rfl ne
            · rw [List.getElem?_eq_none (by simpa using hl)] at e
              cases e
          · exact List.getElem?_set_ne (Ne.symm hk)
        · rw [if_neg (by rw [hb1]; simp)] at e1
          cases e1
          exact o F1 σ1 H1 s1 m1
end
def rErr (K : PySem.W.Frag) : List V → Hp → VK → Prop := fun xs H Q => ∃ (a C : Addr) (c : V) (cv : Value) (b : Bool) (ψ : Heap → Prop), xs = [.ref a, c] ∧ H a = some (.ext ψ) ∧ (∀ h, ψ h → ErrAt C a h) ∧ ExcC K C ∧ (∀ u, RelV c u → u = cv) ∧ PySem.W.kitOne K (.ref C) cv = some b ∧ Q (.bl b) H
theorem call_err {X : Cx} : CallR X (.builtin "isinstance") (rErr X.K) := by
  intro pins s σ H xs us Q I r h
  obtain ⟨a, C, c, cv, b, ψ, rfl, ha, hψ, EC, hcv, e, q⟩ := h
  cases r with
  | cons rx rr =>
    cases rr with
    | cons rt rr =>
      cases rr
      cases rx
      have ec := hcv _ rt
      subst ec
      obtain ⟨hp, _, _⟩ := I.hok a _ ha
      obtain ⟨oe, vs, g1, g2, g3, g4⟩ := hψ _ hp
      have J : PySem.W.InstAt s.heap a oe C none := by
        obtain ⟨oc, od, oda, osl⟩ := oe
        dsimp only at g2 g3 g4
        subst g2 g3 g4
        exact ⟨g1, rfl, rfl, trivial⟩
      exact PySem.W.kia_one (PySem.W.handS_kitx_exc EC.hg EC.hk EC.hs EC.hd EC.ha EC.hn EC.ht EC.hm) I.kIn J e (fun z => nomatch z) fun tk => ⟨.bl b, H, I.kept (t' := tk) fun _ _ z => z, rfl, q⟩
def eIsE (cs : List Cid) (g : Cid → Bool) (f : SE) : SE := f.bind fun x ρ => match x with
  | .err c => if c ∈ cs then some (.ok (.bl (g c)), ρ) else none
  | _ => none
section
variable {X : Cx} {S : Sg} {φ : Fr} {W : WX} {e : Expr} {fe : SE} {pos : Pos}
theorem je_isE {cs : List Cid} {g : Cid → Bool} {xi xa : Str} {p p3 : Pos} {va : V} {cv : Value} (hK : X.K = S.K) (he : JE X S φ W e fe) (ha : PE X (.Name xa p3) (tC va)) (C : ∀ c, c ∈ cs → ExcC S.K (S.ca c)) (ho : ∀ c, c ∈ cs → PySem.W.kitOne S.K (.ref (S.ca c)) cv = some (g c))
    (hcv : ∀ u, RelV va u → u = cv) (hm : X.mg xi = none)
    (hbt : bootBuiltins xi = some (.builtin "isinstance") := by decide +kernel) (hg : Gl X xi := by rfl) (hn : xi ≠ "__name__" := by decide) (hdb : (xi == ("__debug__" : Str)) = false := by decide)
    (hs1 : starEach [e, .Name xa p3] X.env = (false, eval e X.env) :: starEach [.Name xa p3] X.env := by rfl) (hs2 : starEach [.Name xa p3] X.env = (false, eval (.Name xa p3) X.env) :: starEach [] X.env := by rfl) (hpl : (backTo pos (starEach [.Name xa p3] X.env)).any (·.1) = false := by rfl) :
    JE X S φ W (.Call (.Name xi p) [e, .Name xa p3] [] pos) (eIsE cs g fe) :=
  (pe_callB (X := X) call_err hg hm hbt (pa_cons he (pa_cons ha pa_nil hs2) hs1) hn hdb hs1 hpl).imp fun σ H Q ⟨ρ, F, r, s, e1, o⟩ => by
    obtain ⟨r1, e2, o2⟩ := OG.seq e1 o
    refine ⟨ρ, F, r1, s, e2, o2.imp fun x ρ1 F1 H1 s1 m1 ⟨r2, e3, o3⟩ v hv => ?_⟩
    dsimp only at e3
    cases x with
    | err c =>
     dsimp only at e3
     split at e3
     case isFalse => cases e3
     case isTrue hc =>
     cases e3
     obtain ⟨a, ψ, rfl, h2, h3⟩ := hv
     exact ⟨a, S.ca c, va, cv, g c, ψ, rfl, s1.same _ _ h2, h3, by rw [hK]; exact C c hc, hcv, by rw [hK]; exact ho c hc, o3 F1 H1 s1 (Same.refl _) _ rfl⟩
    | _ => cases e3
theorem je_isEc {cs : List Cid} {A : Cid} {xi xa : Str} {p p3 : Pos} (hK : X.K = S.K) (he : JE X S φ W e fe) (gA : X.mg xa = some (.ref (S.ca A))) (C : ∀ c, c ∈ cs → ExcC S.K (S.ca c)) (ho : ∀ c, c ∈ cs → PySem.W.kitOne S.K (.ref (S.ca c)) (.ref (S.ca A)) = some (isub c A)) (hm : X.mg xi = none)
    (hga : Gl X xa := by rfl) (hda : (xa == ("__debug__" : Str)) = false := by decide)
    (hbt : bootBuiltins xi = some (.builtin "isinstance") := by decide +kernel) (hg : Gl X xi := by rfl) (hn : xi ≠ "__name__" := by decide) (hdb : (xi == ("__debug__" : Str)) = false := by decide)
    (hs1 : starEach [e, .Name xa p3] X.env = (false, eval e X.env) :: starEach [.Name xa p3] X.env := by rfl) (hs2 : starEach [.Name xa p3] X.env = (false, eval (.Name xa p3) X.env) :: starEach [] X.env := by rfl) (hpl : (backTo pos (starEach [.Name xa p3] X.env)).any (·.1) = false := by rfl) :
    JE X S φ W (.Call (.Name xi p) [e, .Name xa p3] [] pos) (eIsE cs (fun c => isub c A) fe) :=
  je_isE hK he (pe_glob (v := .ref (S.ca A)) hga gA rfl hda) C ho (fun _ h => h) hm hbt hg hn hdb hs1 hs2 hpl
theorem je_isEt {cs : List Cid} {n0 : String} {b : Bool} {xi xa : Str} {p p3 : Pos} (hK : X.K = S.K) (he : JE X S φ W e fe) (hma : X.mg xa = none) (C : ∀ c, c ∈ cs → ExcC S.K (S.ca c)) (ho : ∀ c, c ∈ cs → PySem.W.kitOne S.K (.ref (S.ca c)) (.type n0) = some b) (hm : X.mg xi = none)
    (hbt2 : bootBuiltins xa = some (.type n0) := by decide +kernel) (hn2 : xa ≠ "__name__" := by decide) (hga : Gl X xa := by rfl) (hda : (xa == ("__debug__" : Str)) = false := by decide)
    (hbt : bootBuiltins xi = some (.builtin "isinstance") := by decide +kernel) (hg : Gl X xi := by rfl) (hn : xi ≠ "__name__" := by decide) (hdb : (xi == ("__debug__" : Str)) = false := by decide)
    (hs1 : starEach [e, .Name xa p3] X.env = (false, eval e X.env) :: starEach [.Name xa p3] X.env := by rfl) (hs2 : starEach [.Name xa p3] X.env = (false, eval (.Name xa p3) X.env) :: starEach [] X.env := by rfl) (hpl : (backTo pos (starEach [.Name xa p3] X.env)).any (·.1) = false := by rfl) :
    JE X S φ W (.Call (.Name xi p) [e, .Name xa p3] [] pos) (eIsE cs (fun _ => b) fe) :=
  je_isE hK he (pe_bltn (v := .ty n0) (u := .type n0) hga hma hbt2 rfl hn2 hda) C ho (fun _ h => h) hm hbt hg hn hdb hs1 hs2 hpl
end

def isErr (cs : List Cid) (g : Cid → Bool) (x : PV) (ρ : Rh) : Option (Ou PV × Rh) := match x with
  | .err c => if c ∈ cs then some (.ok (.bl (g c)), ρ) else none
  | _ => none
@[simp] theorem isErr_e {cs : List Cid} {g : Cid → Bool} {c : Cid} {ρ : Rh} : isErr cs g (.err c) ρ = if c ∈ cs then some (.ok (.bl (g c)), ρ) else none := rfl
@[simp] theorem eIsE_ap {cs : List Cid} {g : Cid → Bool} {f : SE} {ρ : Rh} : eIsE cs g f ρ = bK (f ρ) (isErr cs g) := by
  unfold eIsE SM.bind bK isErr
  rfl
end Y

namespace Y
open PySem PySem.Spec L2 PyProof.Rows
noncomputable def b_l_pick_01 : SS := (sSeq (sSet (gN 2) (eOp oMod (eBf bInt (pCons (eIxV 0 (eC (.int 0))) pNil)) (eV 1)))
  (sSeq (sSetI 0 (eOp oFdiv (eBf bInt (pCons (eIxV 0 (eC (.int 0))) pNil)) (eV 1)) (eC (.int 0)))
  (sRetX 2)))
noncomputable def F_l_pick_01 : Fn := fnOf 2 1 b_l_pick_01
noncomputable def b_is_integer : SS := (sRet (eAnd (eBf (bIsi isiG) (pCons (eV 0) (pCons (eC (.ty "int")) pNil))) (eNot (eBf (bIsi isiG) (pCons (eV 0) (pCons (eC (.ty "bool")) pNil))))))
noncomputable def F_is_integer : Fn := fnOf 1 0 b_is_integer
def n_common_divisor_1 : Rh → Nat := fuI 1
noncomputable def t_common_divisor_1 : SM Bool := (eBl (eOp oGt (eV 1) (eC (.int 0))))
noncomputable def w_common_divisor_1 : SS := (sPar 0 1 (pCons (eV 1) (pCons (eOp oMod (eBf bInt (pCons (eV 0) pNil)) (eV 1)) pNil)))
noncomputable def b_common_divisor : SS := (sSeq (sSet (gN 0) (eBf bAbs (pCons (eV 0) pNil)))
  (sSeq (sSet (gN 1) (eBf bAbs (pCons (eV 1) pNil)))
  (sSeq (sWhile n_common_divisor_1 t_common_divisor_1 w_common_divisor_1)
  (sRetX 0))))
noncomputable def F_common_divisor : Fn := fnOf 2 0 b_common_divisor
noncomputable def b_Amount_init : SS := (sSeq (sIf (tOrM (tNotM (eBl (eR (eCall F_is_integer [] (aCons (aP (eV 1)) aNil))))) (tOrM (tNotM (eBl (eR (eCall F_is_integer [] (aCons (aP (eV 2)) aNil))))) (eBl (eOp oEq (eV 2) (eC (.int 0))))))
  (sRaise .InvalidAmount) sNx)
  (sSeq (sSetR 3 (eCall F_common_divisor [] (aCons (aP (eV 1)) (aCons (aP (eV 2)) aNil))))
  (sSeq (sIf (eBl (eOp oLt (eV 2) (eC (.int 0))))
  (sSet (gN 3) (eUn oNeg (eV 3))) sNx)
  (sSeq (sSetF 0 (fiL [(.Amount, 0)]) (eOp oFdiv (eV 1) (eV 3)))
  (sSetF 0 (fiL [(.Amount, 1)]) (eOp oFdiv (eV 2) (eV 3)))))))
noncomputable def F_Amount_init : Fn := fnOf 3 1 b_Amount_init
noncomputable def b_l_whole : SS := (sRet (eAnd (eBf (bIsi isiG) (pCons (eV 0) (pCons (eC (.ty "int")) pNil))) (eNot (eBf (bIsi isiG) (pCons (eV 0) (pCons (eC (.ty "bool")) pNil))))))
noncomputable def F_l_whole : Fn := fnOf 1 0 b_l_whole
def n_l_gcd_01_1 : Rh → Nat := fuI 1
noncomputable def t_l_gcd_01_1 : SM Bool := (eBl (eOp oGt (eV 1) (eC (.int 0))))
noncomputable def w_l_gcd_01_1 : SS := (sPar 0 1 (pCons (eV 1) (pCons (eOp oMod (eBf bInt (pCons (eV 0) pNil)) (eV 1)) pNil)))
noncomputable def b_l_gcd_01 : SS := (sSeq (sSet (gN 0) (eBf bAbs (pCons (eV 0) pNil)))
  (sSeq (sSet (gN 1) (eBf bAbs (pCons (eV 1) pNil)))
  (sSeq (sWhile n_l_gcd_01_1 t_l_gcd_01_1 w_l_gcd_01_1)
  (sRetX 0))))
noncomputable def F_l_gcd_01 : Fn := fnOf 2 0 b_l_gcd_01
noncomputable def w_l_jar_1 : SS := (sSeq (sSet (gN 3) (eOp oMod (eBf bInt (pCons (eOp oAdd (eOp oAdd (eOp oAdd (eOp oMul (eOp oMul (eV 3) (eV 3)) (eC (.int 3))) (eOp oMul (eV 3) (eOp oAdd (eV 5) (eC (.int 2))))) (eOp oMul (eC (.int 19)) (eV 1))) (eC (.int 71))) pNil)) (eC (.int 2147483587))))
  (sSet (gN 4) (eOp oAdd (eOp oMul (eV 4) (eC (.int 1000033))) (eOp oMod (eBf bInt (pCons (eOp oFdiv (eV 3) (eC (.int 5))) pNil)) (eC (.int 1000033))))))
noncomputable def b_l_jar : SS := (sSeq (sSet (gN 2) (eC (.int 0)))
  (sSeq (sIf (eBl (eOp oLt (eV 1) (eLen (eB 0))))
  (sSet (gN 2) (eIxV 0 (eV 1))) sNx)
  (sSeq (sIf (eBl (eOp oGe (eV 2) (eOp oPow (eC (.int 10)) (eC (.int 18)))))
  (sRetW (eLst (pCons (eOp oSub (eV 2) (eOp oPow (eC (.int 10)) (eC (.int 18)))) pNil))) sNx)
  (sSeq (sSet (gN 3) (eOp oAdd (eOp oAdd (eOp oMod (eBf bInt (pCons (eV 2) pNil)) (eC (.int 2147483647))) (eOp oMul (eC (.int 101)) (eV 1))) (eC (.int 7))))
  (sSeq (sSet (gN 4) (eC (.int 0)))
  (sSeq (sFor (iR1 (pCons (eC (.int 40)) pNil)) (gN 5) w_l_jar_1 [5])
  (sRetW (eLst (pCons (eV 4) pNil)))))))))
noncomputable def F_l_jar : Fn := fnOf 2 4 b_l_jar
noncomputable def b_Amount_eq : SS := (sSeq (sIf (eBl (eBf (bIsi isiG) (pCons (eV 1) (pCons (eC (.cls .Amount)) pNil))))
  (sRet (eAnd (eOp oEq (eR (eAtt (atL [(.Amount, .fld 0)]) (aP (eV 0)))) (eR (eAtt (atL [(.Amount, .fld 0)]) (aH 1)))) (eOp oEq (eR (eAtt (atL [(.Amount, .fld 1)]) (aP (eV 0)))) (eR (eAtt (atL [(.Amount, .fld 1)]) (aH 1)))))) sNx)
  (sRet (eAnd (eR (eCall F_is_integer [] (aCons (aH 1) aNil))) (eAnd (eOp oEq (eR (eAtt (atL [(.Amount, .fld 1)]) (aP (eV 0)))) (eC (.int 1))) (eOp oEq (eR (eAtt (atL [(.Amount, .fld 0)]) (aP (eV 0)))) (eV 1))))))
noncomputable def F_Amount_eq : Fn := fnOf 2 0 b_Amount_eq
noncomputable def w_l_least_08_1 : SS := (sSetR 1 (eCall F_l_gcd_01 [] (aCons (aP (eV 1)) (aCons (aP (eV 3)) aNil))))
noncomputable def e_l_least_08_2 : SE := (eBf bInt (pCons (eV 2) pNil))
noncomputable def t_l_least_08_2 : SM Bool := (fun ρ => some (.ok true, ρ))
noncomputable def e_l_least_08_3 : SE := (eTup (pCons (eV 2) (pCons (eOp oFdiv (eV 3) (eV 1)) pNil)))
noncomputable def t_l_least_08_3 : SM Bool := (eBl (eOp oEq (eV 5) (eV 2)))
noncomputable def w_l_least_08_4 : SS := (sDo (eMl 4 mExtend (pCons (lcM (itH 0) Prod.fst (okH 0) (gT (gsCons (gN 5) (gsCons (gN 3) gsNil))) t_l_least_08_3 e_l_least_08_3 [5, 3]) pNil)))
noncomputable def b_l_least_08 : SS := (sSeq (sSet (gN 1) (eC (.int 0)))
  (sSeq (sForH 0 (gT (gsCons (gN 2) (gsCons (gN 3) gsNil))) w_l_least_08_1 [])
  (sSeq (sSet (gW 4) (eLst pNil))
  (sSeq (sFor (iL (nBfH bSorted (aCons (aP (lcM (itH 0) Prod.fst (okH 0) (gT (gsCons (gN 2) (gsCons (gN 3) gsNil))) t_l_least_08_2 e_l_least_08_2 [2, 3])) aNil))) (gN 2) w_l_least_08_4 [2])
  (sRetX 4)))))
noncomputable def F_l_least_08 : Fn := fnOf 1 5 b_l_least_08
noncomputable def b_is_pair : SS := (sSeq (sIf (tOrM (tNotM (eBl (eBf (bIsi isiG) (pCons (eV 0) (pCons (eC (.ty "tuple")) pNil))))) (eBl (eOp oNe (eLen (eB 0)) (eC (.int 2)))))
  (sRet (eC (.bl false))) sNx)
  (sSeq (sSet (gT (gsCons (gN 1) (gsCons (gN 2) gsNil))) (eV 0))
  (sRet (eAnd (eR (eCall F_is_integer [] (aCons (aP (eV 1)) aNil))) (eAnd (eR (eCall F_is_integer [] (aCons (aP (eV 2)) aNil))) (eAnd (eOp oGe (eV 1) (eC (.int 0))) (eOp oGe (eV 2) (eC (.int 1)))))))))
noncomputable def F_is_pair : Fn := fnOf 1 2 b_is_pair
noncomputable def w_is_list_of_pairs_1 : SS := (sIf (tNotM (eBl (eR (eCall F_is_pair [] (aCons (aP (eV 1)) aNil)))))
  (sRet (eC (.bl false))) sNx)
noncomputable def b_is_list_of_pairs : SS := (sSeq (sIf (tOrM (tNotM (eBl (eBfH (bIsiH isiG) (aCons (aH 0) (aCons (aP (eC (.ty "list"))) aNil))))) (eBl (eOp oEq (eLen (eB 0)) (eC (.int 0)))))
  (sRet (eC (.bl false))) sNx)
  (sSeq (sForH 0 (gN 1) w_is_list_of_pairs_1 [1])
  (sRet (eC (.bl true)))))
noncomputable def F_is_list_of_pairs : Fn := fnOf 1 1 b_is_list_of_pairs
noncomputable def w_reduced_1 : SS := (sSetR 1 (eCall F_common_divisor [] (aCons (aP (eV 1)) (aCons (aP (eDgV 0 (eV 2))) aNil))))
noncomputable def e_reduced_2 : SE := (eBf bInt (pCons (eV 2) pNil))
noncomputable def t_reduced_2 : SM Bool := (fun ρ => some (.ok true, ρ))
noncomputable def e_reduced_3 : SE := (eTup (pCons (eV 2) (pCons (eOp oFdiv (eDgV 0 (eV 2)) (eV 1)) pNil)))
noncomputable def t_reduced_3 : SM Bool := (fun ρ => some (.ok true, ρ))
noncomputable def b_reduced : SS := (sSeq (sSet (gN 1) (eC (.int 0)))
  (sSeq (sFor (iK (eV 0)) (gN 2) w_reduced_1 [])
  (sRetW (lcM (iL (nBfH bSorted (aCons (aP (lcM (iK (eV 0)) id (fun _ _ => True) (gN 2) t_reduced_2 e_reduced_2 [2])) aNil))) id (fun _ _ => True) (gN 2) t_reduced_3 e_reduced_3 [2]))))
noncomputable def F_reduced : Fn := fnOf 1 2 b_reduced
noncomputable def w_Urn_init_1 : SS := (sSeq (sIf (eBl (eInD false (eV 3) (eB 2)))
  (sRaise .InvalidUrn) sNx)
  (sSetD 2 (eV 4) (eV 3)))
noncomputable def e_Urn_init_2 : SE := (eV 4)
noncomputable def t_Urn_init_2 : SM Bool := (fun ρ => some (.ok true, ρ))
noncomputable def k_Urn_init_2 : SE := (eV 3)
noncomputable def e_Urn_init_3 : SE := (eV 4)
noncomputable def t_Urn_init_3 : SM Bool := (fun ρ => some (.ok true, ρ))
noncomputable def b_Urn_init : SS := (sSeq (sIf (tNotM (eBl (eR (eCall F_is_list_of_pairs [] (aCons (aH 1) aNil)))))
  (sRaise .InvalidUrn) sNx)
  (sSeq (sSet (gW 2) (eC (.dct [] [])))
  (sSeq (sForH 1 (gT (gsCons (gN 3) (gsCons (gN 4) gsNil))) w_Urn_init_1 [])
  (sSeq (sSetF 0 (fiL [(.Urn, 0)]) (eR (eCall F_reduced [] (aCons (aP (eV 2)) aNil))))
  (sSeq (sSetF 0 (fiL [(.Urn, 1)]) (dcM (iL (eR (eAtt (atL [(.Urn, .fld 0)]) (aH 0)))) id (fun _ _ => True) (gT (gsCons (gN 3) (gsCons (gN 4) gsNil))) t_Urn_init_2 k_Urn_init_2 e_Urn_init_2 [3, 4]))
  (sSetF 0 (fiL [(.Urn, 2)]) (eBfH bSum (aCons (aP (lcM (iL (eR (eAtt (atL [(.Urn, .fld 0)]) (aH 0)))) id (fun _ _ => True) (gT (gsCons (gN 3) (gsCons (gN 4) gsNil))) t_Urn_init_3 e_Urn_init_3 [3, 4])) aNil))))))))
noncomputable def F_Urn_init : Fn := fnOf 2 3 b_Urn_init
noncomputable def b_Urn_pairs : SS := (sRetW (nBfH bListO (aCons (aP (eR (eAtt (atL [(.Urn, .fld 0)]) (aP (eV 0))))) aNil)))
noncomputable def F_Urn_pairs : Fn := fnOf 1 0 b_Urn_pairs
noncomputable def w_l_told_08_1 : SS := (sSeq (sIf (tOrM (tNotM (eBl (eBf (bIsi isiG) (pCons (eIxV 2 (eV 3)) (pCons (eC (.ty "tuple")) pNil))))) (tOrM (eBl (eOp oNe (eLen (eIxV 2 (eV 3))) (eC (.int 2)))) (eBl (eOpH oNeD (aP (eIxV 2 (eV 3))) (aP (eIxV 1 (eV 3)))))))
  (sRet (eC (.bl false))) sNx)
  (sIf (tOrM (tNotM (eBl (eR (eCall F_l_whole [] (aCons (aP (eOp ixP (eIxV 2 (eV 3)) (eC (.int 0)))) aNil))))) (tNotM (eBl (eR (eCall F_l_whole [] (aCons (aP (eOp ixP (eIxV 2 (eV 3)) (eC (.int 1)))) aNil))))))
  (sRet (eC (.bl false))) sNx))
noncomputable def b_l_told_08 : SS := (sSeq (sIf (tNotM (eBl (eBf (bIsi isiG) (pCons (eV 0) (pCons (eC (.cls .Urn)) pNil)))))
  (sRet (eC (.bl false))) sNx)
  (sSeq (sSetR 2 (eAtt (atL [(.Urn, .prop F_Urn_pairs)]) (aP (eV 0))))
  (sSeq (sIf (tOrM (tNotM (eBl (eBfH (bIsiH isiG) (aCons (aH 2) (aCons (aP (eC (.ty "list"))) aNil))))) (tOrM (eBl (eOp oNe (eLen (eB 2)) (eLen (eB 1)))) (eBl (eOpH oNeD (aP (nBfH (bListOb (fiL [(.Urn, 0)])) (aCons (aH 0) aNil))) (aH 2)))))
  (sRet (eC (.bl false))) sNx)
  (sSeq (sFor (iR1 (pCons (eLen (eB 1)) pNil)) (gN 3) w_l_told_08_1 [3])
  (sRet (eC (.bl true)))))))
noncomputable def F_l_told_08 : Fn := fnOf 2 2 b_l_told_08
noncomputable def w_l_good_k10_1 : SS := (sSeq (sSet (gN 2) (eOp oAdd (eOp oAdd (eV 2) (eC (.int 1))) (eR (eCall F_l_pick_01 [] (aCons (aO 0) (aCons (aP (eOp ixP (eLst (pCons (eC (.int 1)) (pCons (eC (.int 150)) pNil))) (eR (eCall F_l_pick_01 [] (aCons (aO 0) (aCons (aP (eC (.int 2))) aNil)))))) aNil))))))
  (sDo (eMl 1 mInsert (pCons (eR (eCall F_l_pick_01 [] (aCons (aO 0) (aCons (aP (eOp oAdd (eLen (eB 1)) (eC (.int 1)))) aNil)))) (pCons (eTup (pCons (eV 2) (pCons (eOp oAdd (eC (.int 1)) (eR (eCall F_l_pick_01 [] (aCons (aO 0) (aCons (aP (eC (.int 1000))) aNil))))) pNil))) pNil)))))
noncomputable def b_l_good_k10 : SS := (sSeq (sSet (gW 1) (eLst pNil))
  (sSeq (sSet (gN 2) (eC (.int 0)))
  (sSeq (sFor (iR1 (pCons (eOp oAdd (eC (.int 2)) (eR (eCall F_l_pick_01 [] (aCons (aO 0) (aCons (aP (eC (.int 5))) aNil))))) pNil)) (gN 3) w_l_good_k10_1 [3])
  (sSeq (sIf (eBl (eOp oEq (eR (eCall F_l_pick_01 [] (aCons (aO 0) (aCons (aP (eC (.int 3))) aNil)))) (eC (.int 0))))
  (sDo (eMl 1 mAppend (pCons (eTup (pCons (eC (.int 0)) (pCons (eC (.int 1)) pNil))) pNil))) sNx)
  (sRetW (nSl (aH 1) (posO none) (posO (some (eC (.int 6))))))))))
noncomputable def F_l_good_k10 : Fn := fnOf 1 3 b_l_good_k10
noncomputable def w_l_least_10_1 : SS := (sSetR 1 (eCall F_l_gcd_01 [] (aCons (aP (eV 1)) (aCons (aP (eV 3)) aNil))))
noncomputable def e_l_least_10_2 : SE := (eBf bInt (pCons (eV 2) pNil))
noncomputable def t_l_least_10_2 : SM Bool := (fun ρ => some (.ok true, ρ))
noncomputable def e_l_least_10_3 : SE := (eTup (pCons (eV 2) (pCons (eOp oFdiv (eV 3) (eV 1)) pNil)))
noncomputable def t_l_least_10_3 : SM Bool := (eBl (eOp oEq (eV 5) (eV 2)))
noncomputable def w_l_least_10_4 : SS := (sDo (eMl 4 mExtend (pCons (lcM (itH 0) Prod.fst (okH 0) (gT (gsCons (gN 5) (gsCons (gN 3) gsNil))) t_l_least_10_3 e_l_least_10_3 [5, 3]) pNil)))
noncomputable def b_l_least_10 : SS := (sSeq (sSet (gN 1) (eC (.int 0)))
  (sSeq (sForH 0 (gT (gsCons (gN 2) (gsCons (gN 3) gsNil))) w_l_least_10_1 [])
  (sSeq (sSet (gW 4) (eLst pNil))
  (sSeq (sFor (iL (nBfH bSorted (aCons (aP (lcM (itH 0) Prod.fst (okH 0) (gT (gsCons (gN 2) (gsCons (gN 3) gsNil))) t_l_least_10_2 e_l_least_10_2 [2, 3])) aNil))) (gN 2) w_l_least_10_4 [2])
  (sRetX 4)))))
noncomputable def F_l_least_10 : Fn := fnOf 1 5 b_l_least_10
noncomputable def w_l_told_k10_1 : SS := (sSeq (sIf (tOrM (tNotM (eBl (eBf (bIsi isiG) (pCons (eIxV 2 (eV 3)) (pCons (eC (.ty "tuple")) pNil))))) (tOrM (eBl (eOp oNe (eLen (eIxV 2 (eV 3))) (eC (.int 2)))) (eBl (eOpH oNeD (aP (eIxV 2 (eV 3))) (aP (eIxV 1 (eV 3)))))))
  (sRet (eC (.bl false))) sNx)
  (sIf (tOrM (tNotM (eBl (eR (eCall F_l_whole [] (aCons (aP (eOp ixP (eIxV 2 (eV 3)) (eC (.int 0)))) aNil))))) (tNotM (eBl (eR (eCall F_l_whole [] (aCons (aP (eOp ixP (eIxV 2 (eV 3)) (eC (.int 1)))) aNil))))))
  (sRet (eC (.bl false))) sNx))
noncomputable def b_l_told_k10 : SS := (sSeq (sIf (tNotM (eBl (eBf (bIsi isiG) (pCons (eV 0) (pCons (eC (.cls .Urn)) pNil)))))
  (sRet (eC (.bl false))) sNx)
  (sSeq (sSetR 2 (eAtt (atL [(.Urn, .prop F_Urn_pairs)]) (aP (eV 0))))
  (sSeq (sIf (tOrM (tNotM (eBl (eBfH (bIsiH isiG) (aCons (aH 2) (aCons (aP (eC (.ty "list"))) aNil))))) (tOrM (eBl (eOp oNe (eLen (eB 2)) (eLen (eB 1)))) (eBl (eOpH oNeD (aP (nBfH (bListOb (fiL [(.Urn, 0)])) (aCons (aH 0) aNil))) (aH 2)))))
  (sRet (eC (.bl false))) sNx)
  (sSeq (sFor (iR1 (pCons (eLen (eB 1)) pNil)) (gN 3) w_l_told_k10_1 [3])
  (sRet (eC (.bl true)))))))
noncomputable def F_l_told_k10 : Fn := fnOf 2 2 b_l_told_k10
noncomputable def w_is_list_of_pairs_v1_1 : SS := (sIf (tNotM (eBl (eR (eCall F_is_pair [] (aCons (aP (eV 1)) aNil)))))
  (sRet (eC (.bl false))) sNx)
noncomputable def b_is_list_of_pairs_v1 : SS := (sSeq (sIf (tOrM (tNotM (eBl (eOrE (eBfH (bIsiH isiG) (aCons (aH 0) (aCons (aP (eC (.ty "list"))) aNil))) (eBf (bIsi isiG) (pCons (eV 0) (pCons (eC (.ty "list")) pNil)))))) (eBl (eOp oEq (eLen (eB 0)) (eC (.int 0)))))
  (sRet (eC (.bl false))) sNx)
  (sSeq (sForH 0 (gN 1) w_is_list_of_pairs_v1_1 [1])
  (sRet (eC (.bl true)))))
noncomputable def F_is_list_of_pairs_v1 : Fn := fnOf 1 1 b_is_list_of_pairs_v1
noncomputable def w_Urn_init_v1_1 : SS := (sSeq (sIf (eBl (eInD false (eV 3) (eB 2)))
  (sRaise .InvalidUrn) sNx)
  (sSetD 2 (eV 4) (eV 3)))
noncomputable def e_Urn_init_v1_2 : SE := (eV 4)
noncomputable def t_Urn_init_v1_2 : SM Bool := (fun ρ => some (.ok true, ρ))
noncomputable def k_Urn_init_v1_2 : SE := (eV 3)
noncomputable def e_Urn_init_v1_3 : SE := (eV 4)
noncomputable def t_Urn_init_v1_3 : SM Bool := (fun ρ => some (.ok true, ρ))
noncomputable def b_Urn_init_v1 : SS := (sSeq (sIf (tNotM (eBl (eR (eCall F_is_list_of_pairs_v1 [] (aCons (aH 1) aNil)))))
  (sRaise .InvalidUrn) sNx)
  (sSeq (sSet (gW 2) (eC (.dct [] [])))
  (sSeq (sForH 1 (gT (gsCons (gN 3) (gsCons (gN 4) gsNil))) w_Urn_init_v1_1 [])
  (sSeq (sSetF 0 (fiL [(.Urn, 0)]) (eR (eCall F_reduced [] (aCons (aP (eV 2)) aNil))))
  (sSeq (sSetF 0 (fiL [(.Urn, 1)]) (dcM (iL (eR (eAtt (atL [(.Urn, .fld 0)]) (aH 0)))) id (fun _ _ => True) (gT (gsCons (gN 3) (gsCons (gN 4) gsNil))) t_Urn_init_v1_2 k_Urn_init_v1_2 e_Urn_init_v1_2 [3, 4]))
  (sSetF 0 (fiL [(.Urn, 2)]) (eBfH bSum (aCons (aP (lcM (iL (eR (eAtt (atL [(.Urn, .fld 0)]) (aH 0)))) id (fun _ _ => True) (gT (gsCons (gN 3) (gsCons (gN 4) gsNil))) t_Urn_init_v1_3 e_Urn_init_v1_3 [3, 4])) aNil))))))))
noncomputable def F_Urn_init_v1 : Fn := fnOf 2 3 b_Urn_init_v1
noncomputable def b_l_amounts_k10 : SS := (sRetW (eLst (pCons (eTup (pCons (eMake .Amount F_Amount_init [.int 1] (aCons (aP (eV 0)) aNil)) (pCons (eV 1) pNil))) (pCons (eTup (pCons (eV 0) (pCons (eMake .Amount F_Amount_init [.int 1] (aCons (aP (eV 1)) aNil)) pNil))) (pCons (eTup (pCons (eV 0) (pCons (eMake .Amount F_Amount_init [] (aCons (aP (eV 1)) (aCons (aP (eC (.int 2))) aNil))) pNil))) (pCons (eTup (pCons (eMake .Amount F_Amount_init [] (aCons (aP (eC (.int 1))) (aCons (aP (eC (.int 2))) aNil))) (pCons (eV 1) pNil))) pNil))))))
noncomputable def F_l_amounts_k10 : Fn := fnOf 2 0 b_l_amounts_k10
noncomputable def b_l_things_k10 : SS := (sSeq (sSet (gT (gsCons (gN 2) (gsCons (gN 3) gsNil))) (eIxV 0 (eV 1)))
  (sSeq (sSet (gN 4) (eOp ixP (eIxV 0 (eOp oSub (eV 1) (eC (.int 1)))) (eC (.int 0))))
  (sSeq (sSet (gW 5) (eLst (pCons (eTup (pCons (eV 2) (pCons (eC (.int 0)) pNil))) (pCons (eTup (pCons (eV 2) (pCons (eUn oNeg (eV 3)) pNil))) (pCons (eTup (pCons (eOp oSub (eUn oNeg (eC (.int 1))) (eV 2)) (pCons (eV 3) pNil))) (pCons (eTup (pCons (eV 2) (pCons (eC (.bl true)) pNil))) (pCons (eTup (pCons (eC (.bl true)) (pCons (eV 3) pNil))) (pCons (eTup (pCons (eC (.bl false)) (pCons (eV 3) pNil))) pNil))))))))
  (sSeq (sDo (eMl 5 mExtend (pCons (eLst (pCons (eTup (pCons (eV 2) (pCons (eC .non) pNil))) (pCons (eTup (pCons (eC .non) (pCons (eV 3) pNil))) (pCons (eTup (pCons (eBf bStr (pCons (eV 2) pNil)) (pCons (eV 3) pNil))) (pCons (eTup (pCons (eV 2) (pCons (eBf bStr (pCons (eV 3) pNil)) pNil))) (pCons (eLst (pCons (eV 2) (pCons (eV 3) pNil))) pNil)))))) pNil)))
  (sSeq (sDo (eMl 5 mExtend (pCons (eLst (pCons (eV 2) (pCons (eC .non) (pCons (eOp oAddS (eBf bStr (pCons (eV 2) pNil)) (eC (.str ":1"))) (pCons (eTup (pCons (eV 2) pNil)) (pCons (eTup (pCons (eV 2) (pCons (eV 3) (pCons (eV 3) pNil)))) (pCons (eTup pNil) (pCons (eTup (pCons (eV 4) (pCons (eV 3) pNil))) pNil)))))))) pNil)))
  (sSeq (sDo (eMl 5 mAppend (pCons (eTup (pCons (eV 4) (pCons (eOp ixP (eIxV 0 (eOp oSub (eV 1) (eC (.int 1)))) (eC (.int 1))) pNil))) pNil)))
  (sRetW (nOpH oCat (aH 5) (aP (eR (eCall F_l_amounts_k10 [] (aCons (aP (eV 2)) (aCons (aP (eV 3)) aNil)))))))))))))
noncomputable def F_l_things_k10 : Fn := fnOf 2 4 b_l_things_k10
noncomputable def b_l_refused_k10 : SS := (sSeq (sSet (gN 1) (eC .non))
  (sSeq (sTryKeep [.InvalidUrn] .SaleError 2 1 (sDo (eMake .Urn F_Urn_init_v1 [] (aCons (aH 0) aNil))))
  (sSeq (sIf (tOrM (tNotM (eBl (eIsE [.SaleError, .InvalidAmount, .InvalidUrn, .InvalidFact] (fun c7 => isub c7 .InvalidUrn) (eV 1)))) (tNotM (eBl (eIsE [.SaleError, .InvalidAmount, .InvalidUrn, .InvalidFact] (fun _ => true) (eV 1)))))
  (sRet (eC (.bl false))) sNx)
  (sRet (eAnd (eNot (eIsE [.SaleError, .InvalidAmount, .InvalidUrn, .InvalidFact] (fun c7 => isub c7 .InvalidAmount) (eV 1))) (eNot (eIsE [.SaleError, .InvalidAmount, .InvalidUrn, .InvalidFact] (fun c7 => isub c7 .InvalidFact) (eV 1))))))))
noncomputable def F_l_refused_k10 : Fn := fnOf 1 2 b_l_refused_k10
noncomputable def w_l_case_k10_1 : SS := (sSeq (sSet (gW 5) (nOpH oCat (aP (nOpH oCat (aP (nSl (aH 1) (posO none) (posO (some (eV 3))))) (aP (eLst (pCons (eV 4) pNil))))) (aP (nSl (aH 1) (posO (some (eOp oAdd (eV 3) (eC (.int 1))))) (posO none)))))
  (sSeq (sSet (gW 6) (nBfH bListO (aCons (aH 5) aNil)))
  (sIf (tOrM (tNotM (eBl (eR (eCall F_l_refused_k10 [] (aCons (aP (eV 5)) aNil))))) (eBl (eOpH (oNeL2 (foL [(.Amount, F_Amount_eq)])) (aH 5) (aH 6))))
  (sRet (eC (.bl false))) sNx)))
noncomputable def w_l_case_k10_2 : SS := (sIf (tNotM (eBl (eR (eCall F_l_refused_k10 [] (aCons (aP (eV 7)) aNil)))))
  (sRet (eC (.bl false))) sNx)
noncomputable def b_l_case_k10 : SS := (sSeq (sSetR 1 (eCall F_l_good_k10 [] (aCons (aO 0) aNil)))
  (sSeq (sSetR 2 (eCall F_l_least_10 [] (aCons (aP (eV 1)) aNil)))
  (sSeq (sIf (tNotM (eBl (eR (eCall F_l_told_k10 [] (aCons (aP (eMake .Urn F_Urn_init_v1 [] (aCons (aP (nBfH bListO (aCons (aH 1) aNil))) aNil))) (aCons (aP (eV 2)) aNil))))))
  (sRet (eC (.bl false))) sNx)
  (sSeq (sSetR 3 (eCall F_l_pick_01 [] (aCons (aO 0) (aCons (aP (eLen (eB 1))) aNil))))
  (sSeq (sFor (iL (eR (eCall F_l_things_k10 [] (aCons (aP (eV 1)) (aCons (aP (eV 3)) aNil))))) (gN 4) w_l_case_k10_1 [4, 5, 6])
  (sSeq (sFor (iL (eLst (pCons (eLst pNil) (pCons (eC .non) (pCons (eC (.bl true)) (pCons (eC (.int 5)) (pCons (eC (.str "")) (pCons (eC (.str "0:1")) (pCons (eBfH bTupL (aCons (aH 1) aNil)) (pCons (eIxV 1 (eC (.int 0))) (pCons (eKDisp (eOp ixP (eIxV 1 (eC (.int 0))) (eC (.int 0))) (eOp ixP (eIxV 1 (eC (.int 0))) (eC (.int 1)))) (pCons (eMake .Urn F_Urn_init_v1 [] (aCons (aP (eLst (pCons (eTup (pCons (eC (.int 1)) (pCons (eC (.int 1)) pNil))) pNil))) aNil)) pNil)))))))))))) (gN 7) w_l_case_k10_2 [7])
  (sSeq (sIf (tNotM (eBl (eR (eCall F_l_refused_k10 [] (aCons (aP (eMake .Amount F_Amount_init [.int 1] (aCons (aP (eC (.int 2))) aNil))) aNil)))))
  (sRet (eC (.bl false))) sNx)
  (sSeq (sIf (tOrM (tNotM (eBl (eR (eCall F_l_refused_k10 [] (aCons (aP (nOpH oCat (aH 1) (aP (eLst (pCons (eIxV 1 (eV 3)) pNil))))) aNil))))) (tNotM (eBl (eR (eCall F_l_refused_k10 [] (aCons (aP (eLst (pCons (eIxV 1 (eV 3)) (pCons (eIxV 1 (eV 3)) pNil)))) aNil))))))
  (sRet (eC (.bl false))) sNx)
  (sRet (eAnd (eR (eCall F_l_told_k10 [] (aCons (aP (eMake .Urn F_Urn_init_v1 [] (aCons (aP (nBfH bListO (aCons (aH 1) aNil))) aNil))) (aCons (aP (eV 2)) aNil)))) (eR (eCall F_l_told_k10 [] (aCons (aP (eMake .Urn F_Urn_init_v1 [] (aCons (aP (eLst (pCons (eIxV 1 (eV 3)) pNil))) aNil))) (aCons (aP (eLst (pCons (eTup (pCons (eOp ixP (eIxV 1 (eV 3)) (eC (.int 0))) (pCons (eC (.int 1)) pNil))) pNil))) aNil))))))))))))))
noncomputable def F_l_case_k10 : Fn := fnOf 1 7 b_l_case_k10
noncomputable def w_law_k10_1 : SS := (sIf (tNotM (eBl (eR (eCallT F_l_case_k10 [] (eRN (eCall F_l_jar [] (aCons (aP (eV 0)) (aCons (aP (eV 1)) aNil))))))))
  (sRet (eC (.bl false))) sNx)
noncomputable def b_law_k10 : SS := (sSeq (sFor (iR1 (pCons (eBf bMax (pCons (eC (.int 1)) (pCons (eBf bMin (pCons (eLen (eB 0)) (pCons (eC (.int 8)) pNil))) pNil))) pNil)) (gN 1) w_law_k10_1 [1])
  (sRet (eC (.bl true))))
noncomputable def F_law_k10 : Fn := fnOf 1 1 b_law_k10
end Y


namespace Y
open PySem PySem.Spec L2 PyProof.Rows
class IsT (b : Bool) : Prop where
  h : b = true
instance : IsT (no_index true) := ⟨rfl⟩
/-- an int of at most k bits -/
class Bn (i : Int) (k : outParam Nat) : Prop where
  h : i.natAbs < 2 ^ k
theorem pow_le {i j : Nat} (h : i ≤ j) : (2 : Nat) ^ i ≤ 2 ^ j := Nat.pow_le_pow_right (by omega) h
theorem Bn.le {i : Int} {k l : Nat} (h : Bn i k) (hl : k ≤ l) : Bn i l := ⟨Nat.lt_of_lt_of_le h.h (pow_le hl)⟩
instance bn_lit {n : Nat} [h : IsT (Nat.ble n 18446744073709551615)] : Bn (no_index (@OfNat.ofNat Int n (@instOfNat n))) 64 := ⟨by
  have := Nat.le_of_ble_eq_true h.h
  show (Int.ofNat n).natAbs < _
  have e : (Int.ofNat n).natAbs = n := rfl
  rw [e]
  omega⟩
instance bn_add {a b : Int} {i j : Nat} [Bn a i] [Bn b j] : Bn (a + b) (max i j + 1) := ⟨by
  have h1 := (inferInstance : Bn a i).h
  have h2 := (inferInstance : Bn b j).h
  have e1 : (2 : Nat) ^ i ≤ 2 ^ max i j := pow_le (Nat.le_max_left ..)
  have e2 : (2 : Nat) ^ j ≤ 2 ^ max i j := pow_le (Nat.le_max_right ..)
  rw [Nat.pow_succ]
  have := Int.natAbs_add_le a b
  omega⟩
instance bn_neg {a : Int} {i : Nat} [Bn a i] : Bn (-a) i := ⟨by
  rw [Int.natAbs_neg]
  exact (inferInstance : Bn a i).h⟩
instance bn_sub {a b : Int} {i j : Nat} [Bn a i] [Bn b j] : Bn (a - b) (max i j + 1) := by
  rw [Int.sub_eq_add_neg]
  exact bn_add
instance bn_mul {a b : Int} {i j : Nat} [Bn a i] [Bn b j] : Bn (a * b) (i + j) := ⟨by
  rw [Int.natAbs_mul, Nat.pow_add]
  exact Nat.mul_lt_mul'' (inferInstance : Bn a i).h (inferInstance : Bn b j).h⟩
theorem Bn.of {a : Int} {k : Nat} (h1 : -(2 ^ k : Int) < a) (h2 : a < 2 ^ k) : Bn a k := ⟨by
  have e : ((2 ^ k : Nat) : Int) = (2 ^ k : Int) := by simp
  rw [← e] at h1 h2
  omega⟩
/-- by a bound that omega sees -/
theorem bn30 {a : Int} (h1 : -1073741824 < a) (h2 : a < 1073741824) : Bn a 30 := ⟨by omega⟩
theorem Bn.sz {i : Int} {k : Nat} (h : Bn i k) (hk : k ≤ 3000) : Sz i := Sz.of_lt (k := 3000) (Nat.lt_of_lt_of_le h.h (pow_le hk)) (by omega) (by omega)
@[simp] theorem oMul_c {a b : Int} {i j : Nat} [ha : Bn a i] [hb : Bn b j] (h1 : i ≤ 3000) (h2 : j ≤ 3000) : oMul (.int a) (.int b) = some (.int (a * b)) := oMul_i (.inr (.inr ⟨ha.sz h1, hb.sz h2⟩))
@[simp] theorem oFdiv_c {a b : Int} {j : Nat} [hb : Bn b j] (h0 : b ≠ 0) (h2 : j ≤ 3000) : oFdiv (.int a) (.int b) = some (.int (a.fdiv b)) := oFdiv_i (DivB.of_lt (k := 3000) (Nat.lt_of_lt_of_le hb.h (pow_le h2)) (by omega) (by omega) h0)
theorem fmod_ofNat (a b : Nat) : Int.fmod (a : Int) (b : Int) = ((a % b : Nat) : Int) := by
  rw [Int.fmod_eq_emod_of_nonneg _ (by omega)]
  rfl
theorem gcd_step (a b : Nat) (hb : 0 < b) : Nat.gcd b (a % b) = Nat.gcd a b := by
  rw [Nat.gcd_comm b, ← Nat.gcd_rec, Nat.gcd_comm]
theorem euclid {t : SM Bool} {w : SS} (ht : ∀ a b : Nat, t [.pu (.int a), .pu (.int b)] = some (.ok (decide (0 < b)), [.pu (.int a), .pu (.int b)]))
    (hw : ∀ a b : Nat, 0 < b → w [.pu (.int a), .pu (.int b)] = some (.nx, [.pu (.int b), .pu (.int ((a % b : Nat) : Int))])) : ∀ (n a b : Nat), b < n → whileL t w n [.pu (.int a), .pu (.int b)] = some (.nx, [.pu (.int (Nat.gcd a b)), .pu (.int 0)])
  | 0, a, b, h => by omega
  | n + 1, a, b, h => by
    rw [while_s, ht]
    by_cases hb : b = 0
    · subst hb
      simp
    · have hp := Nat.pos_of_ne_zero hb
      have ih := euclid ht hw n b (a % b) (by have := Nat.mod_lt a hp; omega)
      rw [gcd_step a b hp] at ih
      simp only [eK_ok, decide_eq_true hp, ifM_t]
      rw [hw a b hp, loopK_nx, ih]
theorem abs_nat (a : Int) : (if a < 0 then -a else a) = (a.natAbs : Int) := by
  split <;> omega
@[simp] theorem q_lgcd (a b : Int) : F_l_gcd_01 [.pu (.int a), .pu (.int b)] = some (.ok (.pu (.int (Int.gcd a b))), [.pu (.int a), .pu (.int b)]) := by
  have h := euclid (t := t_l_gcd_01_1) (w := w_l_gcd_01_1) (fun a b => by simp [t_l_gcd_01_1]) fun a b h => by simp [w_l_gcd_01_1, Nat.ne_of_gt h, fmod_ofNat]
  simp [F_l_gcd_01, b_l_gcd_01, abs_nat, n_l_gcd_01_1, fuI, h, Int.gcd]
@[simp] theorem q_cgcd (a b : Int) : F_common_divisor [.pu (.int a), .pu (.int b)] = some (.ok (.pu (.int (Int.gcd a b))), [.pu (.int a), .pu (.int b)]) := by
  have h := euclid (t := t_common_divisor_1) (w := w_common_divisor_1) (fun a b => by simp [t_common_divisor_1]) fun a b h => by simp [w_common_divisor_1, Nat.ne_of_gt h, fmod_ofNat]
  simp [F_common_divisor, b_common_divisor, abs_nat, n_common_divisor_1, fuI, h, Int.gcd]
@[simp] theorem q_isint (a : Int) : F_is_integer [.pu (.int a)] = some (.ok (.pu (.bl true)), [.pu (.int a)]) := by
  simp [F_is_integer, b_is_integer, bIsi, tgOf, isiG, isiT, bnames]
@[simp] theorem q_whole (a : Int) : F_l_whole [.pu (.int a)] = some (.ok (.pu (.bl true)), [.pu (.int a)]) := by
  simp [F_l_whole, b_l_whole, bIsi, tgOf, isiG, isiT, bnames]
@[simp] theorem ixN_0 (n : Nat) : L2.ixN (n + 1) 0 = some 0 := by
  simp [L2.ixN]
@[simp] theorem ixN_1 (n : Nat) : L2.ixN (n + 2) 1 = some 1 := by
  unfold L2.ixN
  rw [if_pos (by omega), if_pos (by omega)]
  rfl
@[simp] theorem ixN_2 (n : Nat) : L2.ixN (n + 3) 2 = some 2 := by
  unfold L2.ixN
  rw [if_pos (by omega), if_pos (by omega)]
  rfl
@[simp] theorem ixN_3 (n : Nat) : L2.ixN (n + 4) 3 = some 3 := by
  unfold L2.ixN
  rw [if_pos (by omega), if_pos (by omega)]
  rfl
@[simp] theorem atI_0 (x : PV) (xs : List PV) : L2.atI (x :: xs) 0 = some x := by
  simp [L2.atI]
@[simp] theorem atI_1 (x y : PV) (xs : List PV) : L2.atI (x :: y :: xs) 1 = some y := by
  have : L2.ixN (xs.length + 1 + 1) 1 = some 1 := by
    unfold L2.ixN
    rw [if_pos (by omega), if_pos (by omega)]
    rfl
  simp [L2.atI, this]
@[simp] theorem atI_2 (x y z : PV) (xs : List PV) : L2.atI (x :: y :: z :: xs) 2 = some z := by
  have : L2.ixN (xs.length + 1 + 1 + 1) 2 = some 2 := by
    unfold L2.ixN
    rw [if_pos (by omega), if_pos (by omega)]
    rfl
  simp [L2.atI, this]
theorem atI_n {α : Type} (xs : List α) (n : Nat) (h : n < xs.length) : L2.atI xs (n : Int) = some xs[n] := by
  unfold L2.atI L2.ixN
  simp [h]
theorem atI_int {α : Type} (xs : List α) {i : Int} (h0 : 0 ≤ i) (h : i < xs.length) : L2.atI xs i = some (xs[i.toNat]'(by omega)) := by
  have := atI_n xs i.toNat (by omega)
  rw [Int.toNat_of_nonneg h0] at this
  exact this
/-- an item of a list whose place is drawn -/
theorem atI_mem {α : Type} (xs : List α) {i : Int} (h0 : 0 ≤ i) (h : i < xs.length) : ∃ x, L2.atI xs i = some x ∧ x ∈ xs := ⟨_, atI_int xs h0 h, List.getElem_mem _⟩
theorem q_pick {j m : Int} (h : DivB m) : F_l_pick_01 [.io (.lst [.int j]), .pu (.int m)] = some (.ok (.pu (.int (j.fmod m))), [.io (.lst [.int (j.fdiv m)]), .pu (.int m)]) := by
  simp [F_l_pick_01, b_l_pick_01, oFdiv_i h, h.1]
theorem divB_s {m : Int} (h0 : 0 < m) (h1 : m < 2 ^ 60) : DivB m := DivB.of_lt (k := 60) (by omega) (by omega) (by omega) (by omega)
theorem pick (j : Int) {m : Int} (h0 : 0 < m) (h1 : m < 2 ^ 60) : ∃ r j' : Int, 0 ≤ r ∧ r < m ∧ F_l_pick_01 [.io (.lst [.int j]), .pu (.int m)] = some (.ok (.pu (.int r)), [.io (.lst [.int j']), .pu (.int m)]) := by
  refine ⟨_, _, ?_, ?_, q_pick (divB_s h0 h1)⟩
  · exact Int.fmod_nonneg_of_pos _ h0
  · exact Int.fmod_lt_of_pos _ h0
@[simp] theorem p9 : oPow (.int 10) (.int 9) = some (.int 1000000000) := by
  have h : CPow 10 9 := ⟨by omega, by omega, by omega⟩
  simp [oPow, oI, h]
@[simp] theorem p6 : oPow (.int 10) (.int 6) = some (.int 1000000) := by
  have h : CPow 10 6 := ⟨by omega, by omega, by omega⟩
  simp [oPow, oI, h]
@[simp] theorem p5 : oPow (.int 10) (.int 5) = some (.int 100000) := by
  have h : CPow 10 5 := ⟨by omega, by omega, by omega⟩
  simp [oPow, oI, h]
@[simp] theorem p12 : oPow (.int 10) (.int 12) = some (.int 1000000000000) := by
  have h : CPow 10 12 := ⟨by omega, by omega, by omega⟩
  simp [oPow, oI, h]
@[simp] theorem p18 : oPow (.int 10) (.int 18) = some (.int 1000000000000000000) := by
  have h : CPow 10 18 := ⟨by omega, by omega, by omega⟩
  simp [oPow, oI, h]
def sgn (b : Int) (g : Int) : Int := if b < 0 then -g else g
/-- the Amount that is q -/
def am (q : Rat) : PV := .obj .Amount [.int q.num, .int (q.den : Int)]
@[simp] theorem at1_am {ρ : Rh} {tab : Cid → Option At} {a : Ar} {q : Rat} : at1 ρ tab a (some (am q)) = at2 ρ a [.int q.num, .int (q.den : Int)] (tab .Amount) := rfl
@[simp] theorem me1_am {ρ : Rh} {tab : Cid → Option (Fn × List PV)} {a : Ar} {fs : SM (List Ar)} {q : Rat} : me1 ρ tab a fs (some (am q)) = me2 ρ a fs (tab .Amount) := rfl
@[simp] theorem isi_am {q : Rat} : bIsi isiG [am q, .cls .Amount] = some (.bl true) := by simp [bIsi, tgOf, isiG, isiT, isiC, bnames, am]
@[simp] theorem isi_iA {i : Int} : bIsi isiG [.int i, .cls .Amount] = some (.bl false) := by simp [bIsi, tgOf, isiG, isiT, isiC, bnames]
@[simp] theorem isi_ii {i : Int} : bIsi isiG [.int i, .ty "int"] = some (.bl true) := by simp [bIsi, tgOf, isiG, isiT, isiC, bnames]
@[simp] theorem isi_ib {i : Int} : bIsi isiG [.int i, .ty "bool"] = some (.bl false) := by simp [bIsi, tgOf, isiG, isiT, isiC, bnames]
@[simp] theorem isi_ai {q : Rat} : bIsi isiG [am q, .ty "int"] = some (.bl false) := by simp [bIsi, tgOf, isiG, isiT, isiC, bnames, am]
theorem div_num {t b : Int} (hb : b ≠ 0) : t.fdiv (sgn b (Int.gcd t b)) = (Rat.divInt t b).num ∧ b.fdiv (sgn b (Int.gcd t b)) = ((Rat.divInt t b).den : Int) := by
  rw [Rat.num_divInt, Rat.den_divInt, if_neg hb, Int.gcd_comm b t]
  have hg : 0 < Int.gcd t b := Int.gcd_pos_of_ne_zero_right _ hb
  by_cases h : b < 0
  · have e : sgn b (Int.gcd t b) = -(Int.gcd t b : Int) := by simp [sgn, h]
    have e1 : t.fdiv (-(Int.gcd t b : Int)) = b.sign * t / (Int.gcd t b : Int) := by
      rw [← Int.neg_neg t, Int.neg_fdiv_neg, Int.fdiv_eq_ediv_of_nonneg _ (by omega), Int.sign_eq_neg_one_of_neg h]
      simp
    have e2 : b.fdiv (-(Int.gcd t b : Int)) = ((b.natAbs / Int.gcd t b : Nat) : Int) := by
      have q : b = -(b.natAbs : Int) := by omega
      have : b.fdiv (-(Int.gcd t b : Int)) = (-(b.natAbs : Int)).fdiv (-(Int.gcd t b : Int)) := by rw [← q]
      rw [this, Int.neg_fdiv_neg, Int.fdiv_eq_ediv_of_nonneg _ (by omega)]
      rfl
    rw [e, e1, e2]
    exact ⟨rfl, rfl⟩
  · have e : sgn b (Int.gcd t b) = (Int.gcd t b : Int) := by simp [sgn, h]
    have hp : 0 < b := by omega
    have e1 : t.fdiv (Int.gcd t b : Int) = b.sign * t / (Int.gcd t b : Int) := by
      rw [Int.fdiv_eq_ediv_of_nonneg _ (by omega), Int.sign_eq_one_of_pos hp, Int.one_mul]
    have e2 : b.fdiv (Int.gcd t b : Int) = ((b.natAbs / Int.gcd t b : Nat) : Int) := by
      have q : b = (b.natAbs : Int) := by omega
      have : b.fdiv (Int.gcd t b : Int) = (b.natAbs : Int).fdiv (Int.gcd t b : Int) := by rw [← q]
      rw [this, Int.fdiv_eq_ediv_of_nonneg _ (by omega)]
      rfl
    rw [e, e1, e2]
    exact ⟨rfl, rfl⟩
theorem divInt_div (t b : Int) : Rat.divInt t b = (t : Rat) / (b : Rat) := Rat.divInt_eq_div t b
theorem gcd_div {t b : Int} {j : Nat} (hb : b ≠ 0) (h : Bn b j) (hj : j ≤ 3000) : DivB (sgn b (Int.gcd t b)) := by
  have h2 := Nat.lt_of_lt_of_le h.h (pow_le hj)
  have hg : Int.gcd t b ≤ b.natAbs := Int.gcd_le_natAbs_right _ hb
  have hp : 0 < Int.gcd t b := Int.gcd_pos_of_ne_zero_right _ hb
  refine DivB.of_lt (k := 3000) ?_ (by omega) (by omega) ?_
  · refine Nat.lt_of_le_of_lt ?_ (Nat.lt_of_le_of_lt hg h2)
    unfold sgn; split <;> omega
  · unfold sgn; split <;> omega
@[simp] theorem init_c {t b : Int} {j : Nat} [h : Bn b j] (hb : b ≠ 0) (hj : j ≤ 3000) :
    F_Amount_init [.io (.obj .Amount []), .pu (.int t), .pu (.int b)] = some (.ok (.pu .non), [.io (am ((t : Rat) / (b : Rat))), .pu (.int t), .pu (.int b)]) := by
  have hd := gcd_div (t := t) hb h hj
  obtain ⟨e1, e2⟩ := div_num (t := t) hb
  rw [divInt_div] at e1 e2
  by_cases hn : b < 0
  · have e : sgn b (Int.gcd t b) = -(Int.gcd t b : Int) := by simp [sgn, hn]
    rw [e] at hd e1 e2
    simp [F_Amount_init, b_Amount_init, hb, hn, oFdiv_i hd, e1, e2, am]
  · have e : sgn b (Int.gcd t b) = (Int.gcd t b : Int) := by simp [sgn, hn]
    rw [e] at hd e1 e2
    simp [F_Amount_init, b_Amount_init, hb, hn, oFdiv_i hd, e1, e2, am]
@[simp] theorem init_i (t : Int) : F_Amount_init [.io (.obj .Amount []), .pu (.int t), .pu (.int 1)] = some (.ok (.pu .non), [.io (am (t : Rat)), .pu (.int t), .pu (.int 1)]) := by
  have := init_c (t := t) (b := 1) (by omega) (by omega)
  rw [this]
  have e : (t : Rat) / ((1 : Int) : Rat) = t := by
    have : ((1 : Int) : Rat) = 1 := rfl
    rw [this]
    grind
  rw [e]
theorem rat_eq {p q : Rat} : (p.num = q.num ∧ p.den = q.den) ↔ p = q := ⟨fun ⟨a, b⟩ => Rat.ext a b, fun h => by rw [h]; exact ⟨rfl, rfl⟩⟩
theorem rat_eqI {p q : Rat} : (p.num = q.num ∧ (p.den : Int) = (q.den : Int)) ↔ p = q := by
  rw [← rat_eq]
  constructor
  · intro ⟨a, b⟩; exact ⟨a, by omega⟩
  · intro ⟨a, b⟩; exact ⟨a, by omega⟩
end Y


namespace Y
open PySem PySem.Spec L2 PyProof.Rows
/-- a quotient of at most k bits, top and bottom -/
class Rq (q : Rat) (k : outParam Nat) : Prop where
  t : q.num.natAbs < 2 ^ k
  b : q.den < 2 ^ k
theorem Rq.le {q : Rat} {k l : Nat} (h : Rq q k) (hl : k ≤ l) : Rq q l := ⟨Nat.lt_of_lt_of_le h.t (pow_le hl), Nat.lt_of_lt_of_le h.b (pow_le hl)⟩
theorem divInt_le (t b : Int) (hb : b ≠ 0) : (Rat.divInt t b).num.natAbs ≤ t.natAbs ∧ (Rat.divInt t b).den ≤ b.natAbs := by
  rw [Rat.num_divInt, Rat.den_divInt, if_neg hb]
  refine ⟨?_, Nat.div_le_self _ _⟩
  refine Nat.le_trans (Int.natAbs_ediv_le_natAbs _ _) ?_
  rw [Int.natAbs_mul]
  have : b.sign.natAbs ≤ 1 := by
    rw [Int.natAbs_sign]
    split <;> omega
  calc b.sign.natAbs * t.natAbs ≤ 1 * t.natAbs := Nat.mul_le_mul_right _ this
    _ = t.natAbs := Nat.one_mul _
theorem rq_div {k : Nat} {t b : Int} (hb : b ≠ 0) (h1 : t.natAbs < 2 ^ k) (h2 : b.natAbs < 2 ^ k) : Rq (Rat.divInt t b) k :=
  ⟨Nat.lt_of_le_of_lt (divInt_le t b hb).1 h1, Nat.lt_of_le_of_lt (divInt_le t b hb).2 h2⟩
theorem den_ne (q : Rat) : (q.den : Int) ≠ 0 := by have := q.den_pos; omega
theorem divI_add (p q : Rat) : Rat.divInt (p.num * (q.den : Int) + q.num * (p.den : Int)) ((p.den : Int) * (q.den : Int)) = p + q := by
  have h := Rat.divInt_add_divInt p.num q.num (d₁ := (p.den : Int)) (d₂ := (q.den : Int)) (den_ne p) (den_ne q)
  rw [Rat.num_divInt_den, Rat.num_divInt_den] at h
  exact h.symm
theorem divI_mul (p q : Rat) : Rat.divInt (p.num * q.num) ((p.den : Int) * (q.den : Int)) = p * q := by
  have h := Rat.divInt_mul_divInt p.num q.num (d₁ := (p.den : Int)) (d₂ := (q.den : Int))
  rw [Rat.num_divInt_den, Rat.num_divInt_den] at h
  exact h.symm
instance rq_add {p q : Rat} {i j : Nat} [hp : Rq p i] [hq : Rq q j] : Rq (p + q) (i + j + 1) := by
  rw [← divI_add]
  have e : 2 ^ (i + j + 1) = 2 * (2 ^ i * 2 ^ j) := by rw [Nat.pow_succ, Nat.pow_add, Nat.mul_comm]
  refine rq_div (Int.mul_ne_zero (den_ne p) (den_ne q)) ?_ ?_
  · have a1 : p.num.natAbs * q.den < 2 ^ i * 2 ^ j := Nat.mul_lt_mul'' hp.t hq.b
    have a2 : q.num.natAbs * p.den < 2 ^ j * 2 ^ i := Nat.mul_lt_mul'' hq.t hp.b
    rw [Nat.mul_comm (2 ^ j)] at a2
    have a3 := Int.natAbs_add_le (p.num * (q.den : Int)) (q.num * (p.den : Int))
    rw [Int.natAbs_mul, Int.natAbs_mul, Int.natAbs_natCast, Int.natAbs_natCast] at a3
    omega
  · rw [Int.natAbs_mul, Int.natAbs_natCast, Int.natAbs_natCast]
    have a1 : p.den * q.den < 2 ^ i * 2 ^ j := Nat.mul_lt_mul'' hp.b hq.b
    omega
instance rq_mul {p q : Rat} {i j : Nat} [hp : Rq p i] [hq : Rq q j] : Rq (p * q) (i + j) := by
  rw [← divI_mul]
  refine rq_div (Int.mul_ne_zero (den_ne p) (den_ne q)) ?_ ?_
  · rw [Int.natAbs_mul, Nat.pow_add]
    exact Nat.mul_lt_mul'' hp.t hq.t
  · rw [Int.natAbs_mul, Int.natAbs_natCast, Int.natAbs_natCast, Nat.pow_add]
    exact Nat.mul_lt_mul'' hp.b hq.b
instance rq_neg {p : Rat} {i : Nat} [hp : Rq p i] : Rq (-p) i := ⟨by rw [Rat.neg_num, Int.natAbs_neg]; exact hp.t, by rw [Rat.neg_den]; exact hp.b⟩
instance rq_sub {p q : Rat} {i j : Nat} [hp : Rq p i] [hq : Rq q j] : Rq (p - q) (i + j + 1) := by
  rw [Rat.sub_eq_add_neg]
  exact rq_add
instance rq_int {i : Int} {k : Nat} [h : Bn i k] : Rq (i : Rat) (k + 1) := ⟨by
  show i.natAbs < _
  have := h.h
  rw [Nat.pow_succ]
  omega, by
  show 1 < _
  rw [Nat.pow_succ]
  have := Nat.one_le_two_pow (n := k)
  omega⟩
theorem Rq.pos {q : Rat} {k : Nat} (h : Rq q k) : 0 < k := by
  have h1 := h.b
  have h2 := q.den_pos
  cases k with
  | zero => simp at h1; omega
  | succ k => omega
instance rq_divd {p q : Rat} {i j : Nat} [hp : Rq p i] [hq : Rq q j] : Rq (p / q) (i + j) := by
  have hi := hp.pos
  have hj := hq.pos
  by_cases h : q = 0
  · subst h
    rw [Rat.div_def, Rat.inv_zero, Rat.mul_zero]
    refine ⟨?_, ?_⟩
    · exact Nat.pow_pos (by omega)
    · exact Nat.one_lt_two_pow (by omega)
  · have hn : q.num ≠ 0 := fun z => h (Rat.num_eq_zero.mp z)
    have e : p / q = Rat.divInt (p.num * (q.den : Int)) ((p.den : Int) * q.num) := by
      have h1 := Rat.divInt_mul_divInt p.num (q.den : Int) (d₁ := (p.den : Int)) (d₂ := q.num)
      rw [Rat.num_divInt_den] at h1
      rw [← h1, Rat.div_def]
      congr 1
      have h2 : Rat.divInt q.num (q.den : Int) = q := Rat.num_divInt_den q
      conv => lhs; rw [← h2]
      rw [Rat.inv_divInt]
    rw [e]
    refine rq_div (Int.mul_ne_zero (den_ne p) hn) ?_ ?_
    · rw [Int.natAbs_mul, Int.natAbs_natCast, Nat.pow_add]
      exact Nat.mul_lt_mul'' hp.t hq.b
    · rw [Int.natAbs_mul, Int.natAbs_natCast, Nat.pow_add]
      exact Nat.mul_lt_mul'' hp.b hq.t
instance rq_lit {n : Nat} [h : IsT (Nat.ble n 18446744073709551615)] : Rq (no_index (@OfNat.ofNat Rat n _)) 65 := by
  have := (bn_lit (n := n))
  have q := rq_int (i := (OfNat.ofNat n : Int))
  exact q
instance rq_abs {q : Rat} {k : Nat} [h : Rq q k] : Rq (if q < 0 then -q else q) k := by
  split
  · exact rq_neg
  · exact h
theorem Rq.num {q : Rat} {k : Nat} (h : Rq q k) : Bn q.num k := ⟨h.t⟩
theorem Rq.den {q : Rat} {k : Nat} (h : Rq q k) : Bn (q.den : Int) k := ⟨by rw [Int.natAbs_natCast]; exact h.b⟩
instance bn_num {q : Rat} {k : Nat} [h : Rq q k] : Bn q.num k := h.num
instance bn_den {q : Rat} {k : Nat} [h : Rq q k] : Bn (q.den : Int) k := h.den
@[simp] theorem den_nz (q : Rat) : ((q.den : Int) = 0) = False := eq_false (den_ne q)
@[simp] theorem div_one' (q : Rat) : q / 1 = q := by grind
section
variable {p q : Rat} {i j : Nat} [hp : Rq p i] [hq : Rq q j]
end
end Y


namespace Y
open PySem PySem.Spec L2 PyProof.Rows
@[simp] theorem num_int (n : Int) : ((n : Rat)).num = n := rfl
@[simp] theorem den_int (n : Int) : ((n : Rat)).den = 1 := rfl
section
variable {p : Rat} {n : Int} {i j : Nat} [hp : Rq p i] [hn : Bn n j]
end
section
variable {p q : Rat} {i j : Nat} [hp : Rq p i] [hq : Rq q j]
end
@[simp] theorem eq_aa (p q : Rat) : F_Amount_eq [.pu (am p), .pu (am q)] = some (.ok (.pu (.bl (decide (p = q)))), [.pu (am p), .pu (am q)]) := by
  have h := @rat_eqI p q
  by_cases h1 : p.num = q.num
  · by_cases h2 : (p.den : Int) = (q.den : Int)
    · have e := h.mp ⟨h1, h2⟩
      subst e
      simp [F_Amount_eq, b_Amount_eq]
    · have e : p ≠ q := fun z => h2 (h.mpr z).2
      simp [F_Amount_eq, b_Amount_eq, h1, h2, e]
  · have e : p ≠ q := fun z => h1 (h.mpr z).1
    simp [F_Amount_eq, b_Amount_eq, h1, e]
@[simp] theorem eq_ai (p : Rat) (n : Int) : F_Amount_eq [.pu (am p), .pu (.int n)] = some (.ok (.pu (.bl (decide (p = n)))), [.pu (am p), .pu (.int n)]) := by
  have h := @rat_eqI p (n : Rat)
  by_cases h1 : p.num = n
  · by_cases h2 : (p.den : Int) = 1
    · have e := h.mp ⟨h1, h2⟩
      subst e
      simp [F_Amount_eq, b_Amount_eq]
    · have e : p ≠ n := fun z => h2 (h.mpr z).2
      simp [F_Amount_eq, b_Amount_eq, h1, h2, e]
  · have e : p ≠ n := fun z => h1 (h.mpr z).1
    by_cases h2 : (p.den : Int) = 1
    · simp [F_Amount_eq, b_Amount_eq, h1, h2, e]
    · simp [F_Amount_eq, b_Amount_eq, h1, h2, e]
def orK2 (a b : Option PV) : Option PV := match a with
  | some z => some z
  | none => b
@[simp] theorem orK2_s {z : PV} {b : Option PV} : orK2 (some z) b = some z := rfl
@[simp] theorem orK2_n {b : Option PV} : orK2 none b = b := rfl
@[simp] theorem orO_ap {f g : PV → PV → Option PV} {x y : PV} : orO f g x y = orK2 (f x y) (g x y) := by
  unfold orO orK2
  cases f x y <;> rfl
@[simp] theorem oAdd_a1 {p : Rat} {y : PV} : oAdd (am p) y = none := rfl
@[simp] theorem oAdd_a2 {p : Rat} {n : Int} : oAdd (.int n) (am p) = none := rfl
@[simp] theorem oSub_a1 {p : Rat} {y : PV} : oSub (am p) y = none := rfl
@[simp] theorem oSub_a2 {p : Rat} {n : Int} : oSub (.int n) (am p) = none := rfl
@[simp] theorem oMul_a1 {p : Rat} {y : PV} : oMul (am p) y = none := rfl
@[simp] theorem oMul_a2 {p : Rat} {n : Int} : oMul (.int n) (am p) = none := rfl
@[simp] theorem oLt_a1 {p : Rat} {y : PV} : oLt (am p) y = none := rfl
@[simp] theorem oLt_a2 {p : Rat} {n : Int} : oLt (.int n) (am p) = none := rfl
@[simp] theorem oLe_a1 {p : Rat} {y : PV} : oLe (am p) y = none := rfl
@[simp] theorem oLe_a2 {p : Rat} {n : Int} : oLe (.int n) (am p) = none := rfl
@[simp] theorem oGt_a1 {p : Rat} {y : PV} : oGt (am p) y = none := rfl
@[simp] theorem oGt_a2 {p : Rat} {n : Int} : oGt (.int n) (am p) = none := rfl
@[simp] theorem oGe_a1 {p : Rat} {y : PV} : oGe (am p) y = none := rfl
@[simp] theorem oGe_a2 {p : Rat} {n : Int} : oGe (.int n) (am p) = none := rfl
@[simp] theorem oEq_a1 {p : Rat} {n : Int} : oEq (am p) (.int n) = none := rfl
@[simp] theorem oEq_a2 {p : Rat} {n : Int} : oEq (.int n) (am p) = none := rfl
@[simp] theorem oEq_a3 {p q : Rat} : oEq (am p) (am q) = none := rfl
@[simp] theorem oB_i {tab : Cid → Option Fn} {ti : Cid → Bool} {n : Int} {y : PV} : oB tab ti (.int n) y = none := rfl
@[simp] theorem oCm_i {tab : Cid → Option Fn} {n : Int} {y : PV} : oCm tab (.int n) y = none := rfl
@[simp] theorem isD_am {q : Rat} : (am q).isD = false := rfl
def tbK (g : Option Fn) (xs : List PV) : Option PV := match g with
  | some g => pureG g xs
  | none => none
@[simp] theorem tbK_s {g : Fn} {xs : List PV} : tbK (some g) xs = pureG g xs := rfl
@[simp] theorem oB_aa {tab : Cid → Option Fn} {ti : Cid → Bool} {p q : Rat} : oB tab ti (am p) (am q) = tbK (tab .Amount) [am p, am q] := by
  unfold oB tbK am
  cases h : tab .Amount <;> simp [h]
@[simp] theorem oB_ai {tab : Cid → Option Fn} {ti : Cid → Bool} {p : Rat} {n : Int} : oB tab ti (am p) (.int n) = if ti .Amount = true then tbK (tab .Amount) [am p, .int n] else none := by
  unfold oB tbK am
  cases h : tab .Amount <;> simp [h]
@[simp] theorem oBr_ia {tab : Cid → Option Fn} {p : Rat} {n : Int} : oBr tab (.int n) (am p) = tbK (tab .Amount) [am p, .int n] := by
  unfold oBr tbK am
  cases h : tab .Amount <;> simp [h]
@[simp] theorem oBr_a {tab : Cid → Option Fn} {p : Rat} {y : PV} : oBr tab (am p) y = none := rfl
@[simp] theorem oCm_aa {tab : Cid → Option Fn} {p q : Rat} : oCm tab (am p) (am q) = tbK (tab .Amount) [am p, am q] := by
  unfold oCm tbK am
  cases h : tab .Amount <;> simp [h]
@[simp] theorem oCm_ai {tab : Cid → Option Fn} {p : Rat} {n : Int} : oCm tab (am p) (.int n) = tbK (tab .Amount) [am p, .int n] := by
  unfold oCm tbK am
  cases h : tab .Amount <;> simp [h, tySc]
@[simp] theorem oNegO_a {tab : Cid → Option Fn} {p : Rat} : oNegO tab (am p) = tbK (tab .Amount) [am p] := by
  unfold oNegO tbK am
  cases h : tab .Amount <;> simp [h]
@[simp] theorem oNegO_i {tab : Cid → Option Fn} {n : Int} : oNegO tab (.int n) = some (.int (-n)) := rfl
@[simp] theorem bAbsO_a {tab : Cid → Option Fn} {p : Rat} : bAbsO tab [am p] = tbK (tab .Amount) [am p] := by
  unfold bAbsO tbK am
  cases h : tab .Amount <;> simp [h]
@[simp] theorem bAbsO_i {tab : Cid → Option Fn} {n : Int} : bAbsO tab [.int n] = some (.int (if n < 0 then -n else n)) := rfl
@[simp] theorem pureG_1 {g : Fn} {x : PV} : pureG g [x] = pgS (g [.pu x]) := rfl
@[simp] theorem pureG_2 {g : Fn} {x y : PV} : pureG g [x, y] = pgS (g [.pu x, .pu y]) := rfl
@[simp] theorem tiL_1 {c : Cid} : tiL [c] c = true := by simp [tiL]
@[simp] theorem tiL_0 {c : Cid} : tiL [] c = false := by simp [tiL]
end Y


namespace Y
open PySem PySem.Spec L2 PyProof.Rows
theorem oFdiv_s {a b : Int} (h0 : 0 < b) (h1 : b < 2 ^ 60) : oFdiv (.int a) (.int b) = some (.int (a.fdiv b)) := oFdiv_i (divB_s h0 h1)
theorem oMul_l {a b : Int} (h0 : -(2 ^ 63) < a) (h1 : a < 2 ^ 63) : oMul (.int a) (.int b) = some (.int (a * b)) := oMul_i (.inl (by omega))
theorem oMul_r {a b : Int} (h0 : -(2 ^ 63) < b) (h1 : b < 2 ^ 63) : oMul (.int a) (.int b) = some (.int (a * b)) := oMul_i (.inr (.inl (by omega)))
theorem rng_ints (lo : Int) (n : Nat) : rngP lo n = ((List.range n).map fun i : Nat => lo + (i : Int)).map PV.int := by
  unfold rngP
  rw [List.map_map]
  rfl
theorem q_jar (ns : List Int) (a : Nat) (ha : a < 100) : ∃ j : Int, F_l_jar [.pu (.lst (ns.map .int)), .pu (.int a)] = some (.ok (.ow (.lst [.int j])), [.pu (.lst (ns.map .int)), .pu (.int a)]) := by
  have m1 : oMul (.int 101) (.int a) = some (.int (101 * a)) := oMul_l (by omega) (by omega)
  have m4 : oMul (.int 19) (.int (a : Int)) = some (.int (19 * (a : Int))) := oMul_l (by omega) (by omega)
  have r40 : RngB 40 := RngB.of (by omega) (by omega)
  have draw : ∀ cell : Int, cell < 1000000000000000000 → ∃ part' rest' : Int, forL (gN 5) w_l_jar_1 [5] (rngP 0 40) [.pu (.lst (ns.map .int)), .pu (.int a), .pu (.int cell), .pu (.int (cell.fmod 2147483647 + 101 * a + 7)), .pu (.int 0), .un] = some (.nx, [.pu (.lst (ns.map .int)), .pu (.int a), .pu (.int cell), .pu (.int part'), .pu (.int rest'), .un]) := by
    intro cell hc
    have b1 := Int.fmod_nonneg_of_pos cell (b := 2147483647) (by omega)
    have b2 := Int.fmod_lt_of_pos cell (b := 2147483647) (by omega)
    rw [rng_ints]
    obtain ⟨g, e, h⟩ := for_inv (gm := gN 5) (b := w_l_jar_1) (fg := [5]) (enc := PV.int) (R := fun (g : Int × Int) => [.pu (.lst (ns.map .int)), .pu (.int a), .pu (.int cell), .pu (.int g.1), .pu (.int g.2), .un])
      (fun _ g => -8589934592 < g.1 ∧ g.1 < 8589934592) ((List.range 40).map fun i : Nat => 0 + (i : Int)) (cell.fmod 2147483647 + 101 * a + 7, 0) (by constructor <;> (dsimp only; omega)) (fun i k g hk hg => by
        obtain ⟨part, rest⟩ := g
        dsimp only at hg ⊢
        have hk2 : 0 ≤ k ∧ k < 40 := by
          have := List.mem_of_getElem? hk
          simp at this
          omega
        have m1 : oMul (.int part) (.int part) = some (.int (part * part)) := oMul_l (by omega) (by omega)
        have m2 : oMul (.int (part * part)) (.int 3) = some (.int (part * part * 3)) := oMul_r (by omega) (by omega)
        have m3 : oMul (.int part) (.int (k + 2)) = some (.int (part * (k + 2))) := oMul_l (by omega) (by omega)
        have m5 : oMul (.int rest) (.int 1000033) = some (.int (rest * 1000033)) := oMul_r (by omega) (by omega)
        have d1 : ∀ a : Int, oFdiv (.int a) (.int 5) = some (.int (a.fdiv 5)) := fun a => oFdiv_s (by omega) (by omega)
        have b1 := Int.fmod_nonneg_of_pos (part * part * 3 + part * (k + 2) + 19 * a + 71) (b := 2147483587) (by omega)
        have b2 := Int.fmod_lt_of_pos (part * part * 3 + part * (k + 2) + 19 * a + 71) (b := 2147483587) (by omega)
        refine ⟨((part * part * 3 + part * (k + 2) + 19 * a + 71).fmod 2147483587, rest * 1000033 + (((part * part * 3 + part * (k + 2) + 19 * a + 71).fmod 2147483587).fdiv 5).fmod 1000033), ?_, ?_, ?_⟩
        · rw [fT_ap]
          simp [w_l_jar_1, m1, m2, m3, m4, m5, d1, wipeR, wipe1]
        · dsimp only; omega
        · dsimp only; omega)
    exact ⟨g.1, g.2, e⟩
  by_cases h : a < ns.length
  · have hi : L2.atI (ns.map PV.int) (a : Int) = some (.int ns[a]) := by
      rw [atI_n _ _ (by simpa using h)]
      simp
    by_cases hb : ns[a] < 1000000000000000000
    · obtain ⟨p, r, e⟩ := draw ns[a] hb
      have hb' : ¬ (1000000000000000000 ≤ ns[a]) := by omega
      exact ⟨r, by simp [F_l_jar, b_l_jar, h, hi, hb', m1, r40, e, wipeR, wipe1]⟩
    · have hb' : 1000000000000000000 ≤ ns[a] := by omega
      exact ⟨_, by simp [F_l_jar, b_l_jar, h, hi, hb']; rfl⟩
  · obtain ⟨p, r, e⟩ := draw 0 (by omega)
    have e' := e
    exact ⟨r, by simp [F_l_jar, b_l_jar, h, m1, r40, wipeR, wipe1]; simp at e'; simp [e']⟩
/-- max(1, min(len(script), k)), and alike -/
theorem law_n (lo k n : Nat) (hk : k < 100) (hlo : lo < 100) : ∃ m : Nat, m < 100 ∧ lo ≤ m ∧ (if (lo : Int) < (if (k : Int) < (n : Int) then (k : Int) else (n : Int)) then (if (k : Int) < (n : Int) then (k : Int) else (n : Int)) else (lo : Int)) = (m : Int) := by
  by_cases h1 : k < n
  · by_cases h2 : lo < k
    · exact ⟨k, by omega, by omega, by simp [h1, h2]⟩
    · exact ⟨lo, by omega, by omega, by simp [h1, h2]⟩
  · by_cases h2 : lo < n
    · exact ⟨n, by omega, by omega, by simp [h1, h2]⟩
    · exact ⟨lo, by omega, by omega, by simp [h1, h2]⟩
/-- the outer loop of most laws -/
theorem law_loop {ns : List Int} {w : SS} (hw : ∀ k : Nat, k < 100 → w [.pu (.lst (ns.map .int)), .pu (.int (k : Int))] = some (.nx, [.pu (.lst (ns.map .int)), .pu (.int (k : Int))])) (n : Nat) (hn : n < 100) :
    forL (gN 1) w [1] (rngP 0 n) [.pu (.lst (ns.map .int)), .un] = some (.nx, [.pu (.lst (ns.map .int)), .un]) := by
  rw [rng_ints]
  refine for_all _ fun k hk => ?_
  simp at hk
  obtain ⟨a, h1, h2⟩ := hk
  subst h2
  have e := hw a (by omega)
  rw [fT_ap]
  simp [e, wipeR, wipe1]
theorem tru_loop (k : Nat) (hk : k < 100) {b w : SS} (hb : b = sSeq (sFor (iR1 (pCons (eBf bMax (pCons (eC (.int 1)) (pCons (eBf bMin (pCons (eLen (eB 0)) (pCons (eC (.int (k : Int))) pNil))) pNil))) pNil)) (gN 1) w [1]) (sRet (eC (.bl true)))) (ns : List Int)
    (hw : ∀ k : Nat, k < 100 → w [.pu (.lst (ns.map .int)), .pu (.int (k : Int))] = some (.nx, [.pu (.lst (ns.map .int)), .pu (.int (k : Int))])) : Tru (fnOf 1 1 b) ns := by
  refine ⟨[.pu (.lst (ns.map .int))], ?_⟩
  obtain ⟨m, hm, _, e⟩ := law_n 1 k ns.length hk (by omega)
  have kk := law_loop hw m hm
  have n1 : RngB (m : Int) := RngB.of (by omega) (by omega)
  have e2 : iR1 (pCons (eBf bMax (pCons (eC (.int 1)) (pCons (eBf bMin (pCons (eLen (eB 0)) (pCons (eC (.int (k : Int))) pNil))) pNil))) pNil) [.pu (.lst (ns.map .int)), .un] = some (.ok (rngP 0 m), [.pu (.lst (ns.map .int)), .un]) := by
    rw [iR1_ap]
    simp
    simp at e
    rw [e]
    simp [n1]
  rw [fnOf_ap (m := 1) rfl, hb]
  show fnK _ (sSeq _ _ [.pu (.lst (ns.map .int)), .un]) = _
  rw [sSeq_ap, sFor_ap, e2]
  simp [kk, wipeR, wipe1]
end Y


namespace Y
open PySem PySem.Spec L2 PyProof.Rows
/-- an encoding by data: equal data is equal -/
class DE {α : Type} (enc : α → PV) (k : outParam Nat) where
  dd : α → PyData
  hd : ∀ a, dat (enc a) = some (dd a)
  lay : ∀ a, (dd a).canLay0 = true
  dep : ∀ a, (dd a).depth ≤ k
  eq : ∀ a b, PyData.eqv (dd a) (dd b) = true ↔ a = b
instance de_int : DE PV.int 0 := ⟨PyData.int, fun _ => rfl, fun _ => rfl, fun _ => Nat.le_refl 0, fun a b => by
  show (a == b) = true ↔ _
  exact beq_iff_eq⟩
section
variable {α β : Type} {enc : α → PV} {enc2 : β → PV} {k l : Nat}
theorem de_dats (h : DE enc k) : ∀ xs : List α, dats (xs.map enc) = some (xs.map h.dd)
  | [] => rfl
  | x :: xs => by
    rw [List.map_cons, dats, h.hd, de_dats h xs]
    rfl
theorem de_lay (h : DE enc k) : ∀ xs : List α, PyData.canLayAll0 (xs.map h.dd) = true
  | [] => rfl
  | x :: xs => by
    show ((h.dd x).canLay0 && PyData.canLayAll0 (xs.map h.dd)) = true
    rw [h.lay, de_lay h xs]
    rfl
theorem de_dep (h : DE enc k) : ∀ xs : List α, PyData.depthAll (xs.map h.dd) ≤ k
  | [] => Nat.zero_le _
  | x :: xs => Nat.max_le.mpr ⟨h.dep x, de_dep h xs⟩
theorem de_eq (h : DE enc k) : ∀ xs ys : List α, PyData.eqvAll (xs.map h.dd) (ys.map h.dd) = true ↔ xs = ys
  | [], [] => by simp [PyData.eqvAll]
  | [], y :: ys => by simp [PyData.eqvAll]
  | x :: xs, [] => by simp [PyData.eqvAll]
  | x :: xs, y :: ys => by
    rw [List.map_cons, List.map_cons, PyData.eqvAll, Bool.and_eq_true, h.eq, de_eq h xs ys, List.cons.injEq]
def encL (enc : α → PV) (xs : List α) : PV := .lst (xs.map enc)
def encP (enc : α → PV) (enc2 : β → PV) (p : α × β) : PV := .tup [enc p.1, enc2 p.2]
def encO (enc : α → PV) : Option α → PV
  | some a => enc a
  | none => .non
instance de_lst [h : DE enc k] : DE (encL enc) (k + 1) := ⟨fun xs => .list (xs.map h.dd), fun xs => by
  show (dats (xs.map enc)).map PyData.list = _
  rw [de_dats h]
  rfl, fun xs => de_lay h xs, fun xs => Nat.succ_le_succ (de_dep h xs), fun xs ys => de_eq h xs ys⟩
instance de_pair [h : DE enc k] [h2 : DE enc2 l] : DE (encP enc enc2) (max k l + 1) := ⟨fun p => .tuple [h.dd p.1, h2.dd p.2], fun p => by
  show (dats [enc p.1, enc2 p.2]).map PyData.tuple = _
  simp only [dats, h.hd, h2.hd]
  rfl, fun p => by
  show ((h.dd p.1).canLay0 && ((h2.dd p.2).canLay0 && true)) = true
  rw [h.lay, h2.lay]
  rfl, fun p => by
  show max (h.dd p.1).depth (max (h2.dd p.2).depth 0) + 1 ≤ _
  have a1 := h.dep p.1
  have a2 := h2.dep p.2
  omega, fun p q => by
  show (PyData.eqv (h.dd p.1) (h.dd q.1) && (PyData.eqv (h2.dd p.2) (h2.dd q.2) && true)) = true ↔ _
  rw [Bool.and_true, Bool.and_eq_true, h.eq, h2.eq, Prod.ext_iff]⟩
instance de_opt : DE (encO PV.int) 0 := ⟨fun o => match o with
  | some i => .int i
  | none => .none, fun o => by cases o <;> rfl, fun o => by cases o <;> rfl, fun o => by cases o <;> exact Nat.le_refl 0, fun a b => by
  cases a with
  | none => cases b with
    | none => simp [PyData.eqv]
    | some j => simp [PyData.eqv]
  | some i => cases b with
    | none => simp [PyData.eqv]
    | some j => simp [PyData.eqv]⟩
theorem de_shp (h : DE enc k) (hk : k ≤ 64) (a : α) : okD (h.dd a) = true := by
  have h1 := h.lay a
  have h2 := h.dep a
  show ((h.dd a).canLay0 && decide ((h.dd a).depth ≤ 64)) = true
  rw [h1, decide_eq_true (by omega)]
  rfl
theorem de_eqv [DecidableEq α] (h : DE enc k) (a b : α) : PyData.eqv (h.dd a) (h.dd b) = decide (a = b) := by
  have := h.eq a b
  by_cases q : a = b
  · rw [decide_eq_true q]; exact this.mpr q
  · rw [decide_eq_false q]
    cases z : PyData.eqv (h.dd a) (h.dd b) with
    | false => rfl
    | true => exact absurd (this.mp z) q
theorem oEqD_e [DecidableEq α] [h : DE enc k] (hk : k ≤ 64) (a b : α) : oEqD (enc a) (enc b) = some (.bl (decide (a = b))) := by
  unfold oEqD
  rw [h.hd, h.hd]
  dsimp only
  rw [de_shp h hk, de_shp h hk, de_eqv h]
  rfl
theorem oNeD_e [DecidableEq α] [h : DE enc k] (hk : k ≤ 64) (a b : α) : oNeD (enc a) (enc b) = some (.bl (!decide (a = b))) := by
  unfold oNeD
  rw [h.hd, h.hd]
  dsimp only
  rw [de_shp h hk, de_shp h hk, de_eqv h]
  rfl
@[simp] theorem oEqD_l [DecidableEq α] [h : DE enc k] (hk : k ≤ 63) (xs ys : List α) : oEqD (.lst (xs.map enc)) (.lst (ys.map enc)) = some (.bl (decide (xs = ys))) := oEqD_e (enc := encL enc) (by omega) xs ys
@[simp] theorem oNeD_l [DecidableEq α] [h : DE enc k] (hk : k ≤ 63) (xs ys : List α) : oNeD (.lst (xs.map enc)) (.lst (ys.map enc)) = some (.bl (!decide (xs = ys))) := oNeD_e (enc := encL enc) (by omega) xs ys
@[simp] theorem oEqD_nil [DecidableEq α] [h : DE enc k] (hk : k ≤ 63) (xs : List α) : oEqD (.lst (xs.map enc)) (.lst []) = some (.bl (decide (xs = []))) := oEqD_e (enc := encL enc) (by omega) xs []
@[simp] theorem oNeD_nil [DecidableEq α] [h : DE enc k] (hk : k ≤ 63) (xs : List α) : oNeD (.lst (xs.map enc)) (.lst []) = some (.bl (!decide (xs = []))) := oNeD_e (enc := encL enc) (by omega) xs []
end
@[simp] theorem oEq_b (a b : Bool) : oEq (.bl a) (.bl b) = some (.bl (a == b)) := by
  cases a <;> cases b <;> rfl
@[simp] theorem oNe_b (a b : Bool) : oNe (.bl a) (.bl b) = some (.bl (a != b)) := by
  cases a <;> cases b <;> rfl
@[simp] theorem oEqD_00 : oEqD (.lst []) (.lst []) = some (.bl true) := rfl
@[simp] theorem oNeD_00 : oNeD (.lst []) (.lst []) = some (.bl false) := rfl
@[simp] theorem mPop_snoc {α : Type} {f : α → PV} {ys : List α} {l : α} : mPop (List.map f (ys ++ [l])) = some (f l, List.map f ys) := by
  unfold mPop
  have e : (List.map f (ys ++ [l]))[(List.map f (ys ++ [l])).length - 1]? = some (f l) := by simp
  rw [e]
  dsimp only
  rw [List.map_append, List.map_singleton, List.dropLast_concat]
@[simp] theorem mAppend_ap {xs : List PV} {y : PV} : mAppend xs [y] = if xs.length < 16777216 then some (.non, xs ++ [y]) else none := rfl
@[simp] theorem ixN_m1 (n : Nat) : L2.ixN (n + 1) (-1) = some n := by
  unfold L2.ixN
  rw [if_neg (by omega), if_pos (by omega)]
  congr 1
  omega
@[simp] theorem atI_last {α : Type} (xs : List α) (x : α) : L2.atI (xs ++ [x]) (-1) = some x := by
  unfold L2.atI
  rw [List.length_append, List.length_singleton, ixN_m1]
  simp
@[simp] theorem oIsN_n {x : PV} : oIsN x .non = some (.bl x.isN) := rfl
@[simp] theorem oNotN_n {x : PV} : oNotN x .non = some (.bl (!x.isN)) := rfl
@[simp] theorem isN_non : PV.isN .non = true := rfl
@[simp] theorem isN_int {i : Int} : PV.isN (.int i) = false := rfl
@[simp] theorem isN_lst {xs : List PV} : PV.isN (.lst xs) = false := rfl
@[simp] theorem isN_tup {xs : List PV} : PV.isN (.tup xs) = false := rfl
@[simp] theorem isN_bl {b : Bool} : PV.isN (.bl b) = false := rfl
@[simp] theorem isN_obj {c : Cid} {xs : List PV} : PV.isN (.obj c xs) = false := rfl
@[simp] theorem isN_am {q : Rat} : PV.isN (am q) = false := rfl
theorem cutP_take {α : Type} (f : α → PV) (xs : List α) (k : Nat) : cutP (xs.map f) none (some (k : Int)) = (xs.take k).map f := by
  unfold cutP
  rw [HT.sIx_none, HT.sIx_nat, List.drop_zero, Nat.sub_zero, List.length_map, ← List.map_take]
  congr 1
  rw [List.take_eq_take_iff]
  omega
end Y


namespace Y
open PySem PySem.Spec L2 PyProof.Rows
abbrev encW : Int × Int → PV := encP PV.int PV.int
theorem encW_ap (p : Int × Int) : encW p = .tup [.int p.1, .int p.2] := rfl
def urnP (rows : List (Int × Int)) : PV := .obj .Urn [.lst (rows.map encW), .dct (akeys rows) (avals PV.int rows), .int (rows.map (·.2)).sum]
@[simp] theorem at1_urn {ρ : Rh} {tab : Cid → Option At} {a : Ar} {r : List (Int × Int)} : at1 ρ tab a (some (urnP r)) = at2 ρ a [.lst (r.map encW), .dct (akeys r) (avals PV.int r), .int (r.map (·.2)).sum] (tab .Urn) := rfl
@[simp] theorem me1_urn {ρ : Rh} {tab : Cid → Option (Fn × List PV)} {a : Ar} {fs : SM (List Ar)} {r : List (Int × Int)} : me1 ρ tab a fs (some (urnP r)) = me2 ρ a fs (tab .Urn) := rfl
@[simp] theorem isi_urn {r : List (Int × Int)} : bIsi isiG [urnP r, .cls .Urn] = some (.bl true) := by simp [bIsi, tgOf, isiG, isiT, isiC, bnames, urnP]
@[simp] theorem isi_tup {xs : List PV} : bIsi isiG [.tup xs, .ty "tuple"] = some (.bl true) := by simp [bIsi, tgOf, isiG, isiT, isiC, bnames]
@[simp] theorem isi_lst {xs : List PV} : bIsi isiG [.lst xs, .ty "list"] = some (.bl true) := by simp [bIsi, tgOf, isiG, isiT, isiC, bnames]
@[simp] theorem isiH_lst {xs : List PV} : bIsiH isiG [.lst xs, .ty "list"] = some (.bl true) := by simp [bIsiH, bIsi, noDO, tgOf, isiG, isiT, isiC, bnames]
theorem pair_ok {p : Int × Int} (h0 : 0 ≤ p.1) (h1 : 1 ≤ p.2) : F_is_pair [.pu (encW p)] = some (.ok (.pu (.bl true)), [.pu (encW p)]) := by
  rw [encW_ap]
  simp [F_is_pair, b_is_pair, h0, h1]
/-- what an urn may be made of -/
structure GP (k : Nat) (ps : List (Int × Int)) : Prop where
  ne : ps ≠ []
  nd : (ps.map (·.1)).Nodup
  w0 : ∀ p ∈ ps, 0 ≤ p.1
  w1 : ∀ p ∈ ps, 1 ≤ p.2
  len : ps.length ≤ 10000
  bd : ∀ p ∈ ps, p.2.natAbs < 2 ^ k
theorem lop_ok {k : Nat} {ps : List (Int × Int)} (h : GP k ps) : F_is_list_of_pairs [.pu (.lst (ps.map encW))] = some (.ok (.pu (.bl true)), [.pu (.lst (ps.map encW))]) := by
  have e : forL (gN 1) w_is_list_of_pairs_1 [1] (ps.map encW) [.pu (.lst (ps.map encW)), .un] = some (.nx, [.pu (.lst (ps.map encW)), .un]) := by
    refine for_all (enc := encW) _ fun p hp => ?_
    have q := pair_ok (h.w0 p hp) (h.w1 p hp)
    rw [fT_ap]
    generalize ps.map encW = PS
    generalize encW p = P at *
    simp [w_is_list_of_pairs_1, q, wipeR, wipe1]
  have l : (ps.map encW).length ≠ 0 := by
    have := h.ne
    simpa using this
  generalize ps.map encW = PS at *
  simp [F_is_list_of_pairs, b_is_list_of_pairs, e, l, wipeR, wipe1]
def gcdW (ps : List (Int × Int)) : Int := ps.foldl (fun g p => (Int.gcd g p.2 : Int)) 0
def least (ps : List (Int × Int)) : List (Int × Int) := (srt (ps.map (·.1))).map fun w => (w, ((aget ps w).getD 0).fdiv (gcdW ps))
theorem aget_mem {ps : List (Int × Int)} (nd : (ps.map (·.1)).Nodup) : ∀ {p : Int × Int}, p ∈ ps → aget ps p.1 = some p.2 := by
  induction ps with
  | nil => intro p h; simp at h
  | cons q r ih =>
    intro p h
    rw [List.map_cons, List.nodup_cons] at nd
    unfold aget
    rcases List.mem_cons.mp h with e | h
    · rw [e, if_pos rfl]
    · rw [if_neg (fun e => nd.1 (by rw [e]; exact List.mem_map_of_mem h)), ih nd.2 h]
theorem aget_none {ps : List (Int × Int)} {w : Int} (h : w ∉ ps.map (·.1)) : aget ps w = none := by
  induction ps with
  | nil => rfl
  | cons q r ih =>
    rw [List.map_cons, List.mem_cons, not_or] at h
    unfold aget
    rw [if_neg (fun e => h.1 e.symm), ih h.2]
theorem gcdF_dvd : ∀ (ps : List (Int × Int)) (g : Int), (ps.foldl (fun g p => (Int.gcd g p.2 : Int)) g ∣ g) ∧ ∀ p ∈ ps, ps.foldl (fun g p => (Int.gcd g p.2 : Int)) g ∣ p.2
  | [], g => ⟨Int.dvd_refl g, fun p h => by simp at h⟩
  | q :: r, g => by
    obtain ⟨h1, h2⟩ := gcdF_dvd r (Int.gcd g q.2 : Int)
    rw [List.foldl_cons]
    refine ⟨Int.dvd_trans h1 (Int.gcd_dvd_left ..), fun p hp => ?_⟩
    rcases List.mem_cons.mp hp with e | hp
    · rw [e]; exact Int.dvd_trans h1 (Int.gcd_dvd_right ..)
    · exact h2 p hp
theorem gcdF_nn : ∀ (ps : List (Int × Int)) (g : Int), 0 ≤ g → 0 ≤ ps.foldl (fun g p => (Int.gcd g p.2 : Int)) g
  | [], g, h => h
  | q :: r, g, _ => gcdF_nn r _ (Int.natCast_nonneg _)
theorem gcdW_dvd {ps : List (Int × Int)} {p : Int × Int} (h : p ∈ ps) : gcdW ps ∣ p.2 := (gcdF_dvd ps 0).2 p h
theorem gcdW_pos {k : Nat} {ps : List (Int × Int)} (h : GP k ps) : 0 < gcdW ps := by
  have h0 := gcdF_nn ps 0 (by omega)
  obtain ⟨p, r, e⟩ := List.exists_cons_of_ne_nil h.ne
  have hp : p ∈ ps := by rw [e]; exact List.mem_cons_self ..
  have h1 := h.w1 p hp
  have d := gcdW_dvd hp
  have : gcdW ps ≠ 0 := fun z => by
    rw [z] at d
    have := Int.zero_dvd.mp d
    omega
  have h0 : 0 ≤ gcdW ps := h0
  omega
theorem gcdW_le {k : Nat} {ps : List (Int × Int)} (h : GP k ps) : (gcdW ps).natAbs < 2 ^ k := by
  obtain ⟨p, r, e⟩ := List.exists_cons_of_ne_nil h.ne
  have hp : p ∈ ps := by rw [e]; exact List.mem_cons_self ..
  have h1 := h.w1 p hp
  have d := Int.le_of_dvd (by omega) (gcdW_dvd hp)
  have b := h.bd p hp
  have := gcdW_pos h
  omega
theorem least_perm {k : Nat} {ps : List (Int × Int)} (h : GP k ps) : (least ps).Perm (ps.map fun p => (p.1, p.2.fdiv (gcdW ps))) := by
  have e : (ps.map fun p => (p.1, p.2.fdiv (gcdW ps))) = (ps.map (·.1)).map fun w => (w, ((aget ps w).getD 0).fdiv (gcdW ps)) := by
    rw [List.map_map]
    apply List.map_congr_left
    intro p hp
    show _ = (p.1, ((aget ps p.1).getD 0).fdiv (gcdW ps))
    rw [aget_mem h.nd hp]
    rfl
  rw [e]
  exact (srt_perm _).map _
theorem dgv_turn {ps : List (Int × Int)} {p : Int × Int} (nd : (ps.map (·.1)).Nodup) (hp : p ∈ ps) : valX (.inl p.1) (akeys ps) (avals PV.int ps) = some (.int p.2) := by
  rw [valX_a, aget_mem nd hp]
  rfl
theorem akeys_V (ps : List (Int × Int)) : (akeys ps).map keyV = ps.map fun p => PV.int p.1 := by
  unfold akeys
  rw [List.map_map]
  rfl
theorem fold_gcd {ps : List (Int × Int)} (nd : (ps.map (·.1)).Nodup) : ∀ (r : List (Int × Int)) (g : Int) (s2 : Sl), (∀ x, s2 ≠ .io x) → (∀ p ∈ r, p ∈ ps) → ∃ s2' : Sl, (∀ x, s2' ≠ .io x) ∧
    forL (gN 2) w_reduced_1 [] (r.map fun p => PV.int p.1) [.pu (.dct (akeys ps) (avals PV.int ps)), .pu (.int g), s2] = some (.nx, [.pu (.dct (akeys ps) (avals PV.int ps)), .pu (.int (r.foldl (fun g p => (Int.gcd g p.2 : Int)) g)), s2'])
  | [], g, s2, h2, _ => ⟨s2, h2, rfl⟩
  | p :: r, g, s2, h2, hr => by
    obtain ⟨s2', h2', e⟩ := fold_gcd nd r (Int.gcd g p.2) (.pu (.int p.1)) (fun x z => by cases z) fun q hq => hr q (List.mem_cons_of_mem _ hq)
    refine ⟨s2', h2', ?_⟩
    have v := dgv_turn nd (hr p (List.mem_cons_self ..))
    have t : fT (gN 2) w_reduced_1 [] (.int p.1) [.pu (.dct (akeys ps) (avals PV.int ps)), .pu (.int g), s2] = some (.nx, [.pu (.dct (akeys ps) (avals PV.int ps)), .pu (.int (Int.gcd g p.2)), .pu (.int p.1)]) := by
      rw [fT_ap]
      generalize akeys ps = KS at *
      generalize avals PV.int ps = VS at *
      cases s2 with
      | io x => exact absurd rfl (h2 x)
      | _ => simp [w_reduced_1, v, wipeR, wipe1]
    rw [List.map_cons, forL_cons, t, goK_nx, e]
    rfl
theorem red_ok {k : Nat} {ps : List (Int × Int)} (h : GP k ps) (hk : k ≤ 3000) : F_reduced [.pu (.dct (akeys ps) (avals PV.int ps))] = some (.ok (.ow (.lst ((least ps).map encW))), [.pu (.dct (akeys ps) (avals PV.int ps))]) := by
  obtain ⟨s2, h2, e⟩ := fold_gcd h.nd ps 0 .un (fun x z => by cases z) fun p hp => hp
  have l1 : ∀ ρ : Rh, unAll [2] ρ = true → ∀ c0 c1 : Sl, ρ = [c0, c1, .un] → lcLc (fun _ => True) (gN 2) t_reduced_2 e_reduced_2 [2] (ps.map fun p => PV.int p.1) [] ρ = some ((ps.map (·.1)).map PV.int, ρ) := by
    intro ρ hu c0 c1 hρ
    refine (lc_map (enc := fun p : Int × Int => PV.int p.1) (enc2 := PV.int) (p := fun _ => true) (f := fun p => p.1) ?_ hu ps [] (by have := h.len; simp; omega) ?_).trans ?_
    · trivial
    · intro p hp
      subst hρ
      simp [lT, t_reduced_2, e_reduced_2, wipeR, wipe1]
    · rw [List.filter_eq_self.mpr fun _ _ => rfl]
      simp
  have hb : Bn (gcdW ps) k := ⟨gcdW_le h⟩
  have hg : gcdW ps ≠ 0 := by have := gcdW_pos h; omega
  have l2 : lcLc (fun _ => True) (gN 2) t_reduced_3 e_reduced_3 [2] ((srt (ps.map (·.1))).map PV.int) [] [.pu (.dct (akeys ps) (avals PV.int ps)), .pu (.int (gcdW ps)), .un] = some ((least ps).map encW, [.pu (.dct (akeys ps) (avals PV.int ps)), .pu (.int (gcdW ps)), .un]) := by
    refine (lc_map (enc := PV.int) (enc2 := encW) (p := fun _ => true) (f := fun w => (w, ((aget ps w).getD 0).fdiv (gcdW ps))) ?_ ?_ (srt (ps.map (·.1))) [] (by have := h.len; have e := (srt_perm (ps.map (·.1))).length_eq; rw [e]; simp; omega) ?_).trans ?_
    · trivial
    · rfl
    · intro w hw
      have hw2 : w ∈ ps.map (·.1) := (srt_perm _).mem_iff.mp hw
      obtain ⟨p, hp, rfl⟩ := List.mem_map.mp hw2
      have v := dgv_turn h.nd hp
      have a := aget_mem h.nd hp
      rw [encW_ap]
      dsimp only
      rw [a]
      unfold lT
      generalize akeys ps = KS at *
      generalize avals PV.int ps = VS at *
      generalize gcdW ps = G at *
      simp [t_reduced_3, e_reduced_3, v, hg, hk, wipeR, wipe1]
    · rw [List.filter_eq_self.mpr fun _ _ => rfl]
      rfl
  rw [← akeys_V] at e l1
  have eg : ps.foldl (fun g p => (Int.gcd g p.2 : Int)) 0 = gcdW ps := rfl
  rw [eg] at e
  have l1 := l1 [.pu (.dct (akeys ps) (avals PV.int ps)), .pu (.int (gcdW ps)), .un] rfl _ _ rfl
  generalize ps.map (fun x => x.1) = NS at *
  generalize (least ps).map encW = LS at *
  generalize akeys ps = KS at *
  generalize avals PV.int ps = VS at *
  generalize gcdW ps = G at *
  cases s2 with
  | io x => exact absurd rfl (h2 x)
  | _ => simp [F_reduced, b_reduced, e, l1, l2, wipeR, wipe1]
theorem init_loop {k : Nat} {all : List (Int × Int)} (hl : all.length ≤ 10000) (nd : (all.map (·.1)).Nodup) (c0 c1 : Sl) : ∀ (r acc : List (Int × Int)) (s3 s4 : Sl), acc ++ r = all → (∀ x, s3 ≠ .io x) → (∀ x, s4 ≠ .io x) → ∃ s3' s4' : Sl, (∀ x, s3' ≠ .io x) ∧ (∀ x, s4' ≠ .io x) ∧
    forL (gT (gsCons (gN 3) (gsCons (gN 4) gsNil))) w_Urn_init_1 [] (r.map encW) [c0, c1, .ow (.dct (akeys acc) (avals PV.int acc)), s3, s4] = some (.nx, [c0, c1, .ow (.dct (akeys all) (avals PV.int all)), s3', s4'])
  | [], acc, s3, s4, ha, h3, h4 => ⟨s3, s4, h3, h4, by
    rw [List.append_nil] at ha
    rw [ha]
    rfl⟩
  | p :: r, acc, s3, s4, ha, h3, h4 => by
    obtain ⟨s3', s4', h3', h4', e⟩ := init_loop (k := k) hl nd c0 c1 r (acc ++ [p]) (.pu (.int p.1)) (.pu (.int p.2)) (by rw [← ha]; simp) (fun x z => by cases z) (fun x z => by cases z)
    refine ⟨s3', s4', h3', h4', ?_⟩
    have hn : p.1 ∉ acc.map (·.1) := fun z => by
      rw [← ha, List.map_append, List.nodup_append] at nd
      exact nd.2.2 _ z _ (by rw [List.map_cons]; exact List.mem_cons_self ..) rfl
    have v : valX (.inl p.1) (akeys acc) (avals PV.int acc) = none := by rw [valX_a, aget_none hn]; rfl
    have pk : putX (.inl p.1) (.int p.2) (akeys acc) (avals PV.int acc) = (akeys (acc ++ [p]), avals PV.int (acc ++ [p])) := by
      rw [putX_a (enc := PV.int)]
      have : aput acc p.1 p.2 = acc ++ [p] := by
        unfold aput
        rw [aget_none hn]
        rfl
      rw [this]
    have al : (avals PV.int acc).length < 16777216 := by
      rw [avals_len]
      have := congrArg List.length ha
      simp at this
      omega
    have t : fT (gT (gsCons (gN 3) (gsCons (gN 4) gsNil))) w_Urn_init_1 [] (encW p) [c0, c1, .ow (.dct (akeys acc) (avals PV.int acc)), s3, s4] = some (.nx, [c0, c1, .ow (.dct (akeys (acc ++ [p])) (avals PV.int (acc ++ [p]))), .pu (.int p.1), .pu (.int p.2)]) := by
      rw [fT_ap, encW_ap]
      generalize akeys (acc ++ [p]) = KS2 at *
      generalize avals PV.int (acc ++ [p]) = VS2 at *
      generalize akeys acc = KS at *
      generalize avals PV.int acc = VS at *
      cases s3 with
      | io x => exact absurd rfl (h3 x)
      | _ =>
        cases s4 with
        | io x => exact absurd rfl (h4 x)
        | _ => simp [w_Urn_init_1, v, pk, al, wipeR, wipe1]
    rw [List.map_cons, forL_cons, t, goK_nx, e]
theorem srt_nodup {ns : List Int} (h : ns.Nodup) : (srt ns).Nodup := (srt_perm ns).nodup_iff.mpr h
theorem least_keys (ps : List (Int × Int)) : (least ps).map (·.1) = srt (ps.map (·.1)) := by
  unfold least
  rw [List.map_map]
  show (srt (ps.map (·.1))).map (fun w => w) = _
  rw [List.map_id']
theorem least_len (ps : List (Int × Int)) : (least ps).length = ps.length := by
  have := congrArg List.length (least_keys ps)
  rw [List.length_map, (srt_perm _).length_eq, List.length_map] at this
  exact this
theorem init_urn {k : Nat} {ps : List (Int × Int)} (h : GP k ps) (hk : k ≤ 3000) : F_Urn_init [.io (.obj .Urn []), .pu (.lst (ps.map encW))] = some (.ok (.pu .non), [.io (urnP (least ps)), .pu (.lst (ps.map encW))]) := by
  have e1 := lop_ok h
  obtain ⟨s3, s4, h3, h4, e2⟩ := init_loop (k := k) h.len h.nd (.io (.obj .Urn [])) (.pu (.lst (ps.map encW))) ps [] .un .un rfl (fun x z => by cases z) (fun x z => by cases z)
  have e3 := red_ok h hk
  have hl := h.len
  have e4 : ∀ c0 c1 c2 : Sl, dcLc (fun _ => True) (gT (gsCons (gN 3) (gsCons (gN 4) gsNil))) t_Urn_init_2 k_Urn_init_2 e_Urn_init_2 [3, 4] ((least ps).map encW) ([], []) [c0, c1, c2, .un, .un] = some ((akeys (least ps), avals PV.int (least ps)), [c0, c1, c2, .un, .un]) := by
    intro c0 c1 c2
    refine (dc_map (enc := encW) ?_ ?_ (fun p => p.1) (fun p => .int p.2) (least ps) ([], []) (by rw [least_len]; simp; omega) ?_ ?_).trans ?_
    · trivial
    · rfl
    · have : ([] : List Key) ++ (least ps).map (fun x => (Sum.inl x.1 : Key)) = ((least ps).map (·.1)).map Sum.inl := by simp [List.map_map]
      rw [this, least_keys]
      exact List.Pairwise.map _ (fun a b hab e => hab (inl_eq.mp e)) (srt_nodup h.nd)
    · intro p hp
      rw [encW_ap]
      simp [dT, t_Urn_init_2, k_Urn_init_2, e_Urn_init_2, wipeR, wipe1]
    · rfl
  have e5 : ∀ c0 c1 c2 : Sl, lcLc (fun _ => True) (gT (gsCons (gN 3) (gsCons (gN 4) gsNil))) t_Urn_init_3 e_Urn_init_3 [3, 4] ((least ps).map encW) [] [c0, c1, c2, .un, .un] = some (((least ps).map (·.2)).map PV.int, [c0, c1, c2, .un, .un]) := by
    intro c0 c1 c2
    refine (lc_map (enc := encW) (enc2 := PV.int) (p := fun _ => true) (f := fun p => p.2) ?_ ?_ (least ps) [] (by rw [least_len]; simp; omega) ?_).trans ?_
    · trivial
    · rfl
    · intro p hp
      rw [encW_ap]
      simp [lT, t_Urn_init_3, e_Urn_init_3, wipeR, wipe1]
    · rw [List.filter_eq_self.mpr fun _ _ => rfl]
      rfl
  have eu : urnP (least ps) = .obj .Urn [.lst ((least ps).map encW), .dct (akeys (least ps)) (avals PV.int (least ps)), .int ((least ps).map (·.2)).sum] := rfl
  rw [eu]
  have n1 : akeys ([] : List (Int × Int)) = [] := rfl
  have n2 : avals PV.int ([] : List (Int × Int)) = [] := rfl
  rw [n1, n2] at e2
  generalize (least ps).map encW = LS at *
  generalize (least ps).map (fun x => x.2) = WS at *
  generalize akeys (least ps) = KS at *
  generalize avals PV.int (least ps) = VS at *
  generalize akeys ps = KP at *
  generalize avals PV.int ps = VP at *
  generalize ps.map encW = PS at *
  cases s3 with
  | io x => exact absurd rfl (h3 x)
  | _ =>
    cases s4 with
    | io x => exact absurd rfl (h4 x)
    | _ => simp [F_Urn_init, b_Urn_init, e1, e2, e3, e4, e5, wipeR, wipe1]
def tot (r : List (Int × Int)) : Int := (r.map (·.2)).sum
theorem urnP_ap (r : List (Int × Int)) : urnP r = .obj .Urn [.lst (r.map encW), .dct (akeys r) (avals PV.int r), .int (tot r)] := rfl
section
variable {k : Nat} {r : List (Int × Int)}
theorem GP.least (h : GP k r) : GP k (least r) where
  ne := fun e => by
    have := congrArg List.length e
    rw [least_len] at this
    exact h.ne (List.eq_nil_of_length_eq_zero this)
  nd := by rw [least_keys]; exact srt_nodup h.nd
  w0 := fun p hp => by
    obtain ⟨q, hq, rfl⟩ := List.mem_map.mp ((least_perm h).mem_iff.mp hp)
    exact h.w0 q hq
  w1 := fun p hp => by
    obtain ⟨q, hq, rfl⟩ := List.mem_map.mp ((least_perm h).mem_iff.mp hp)
    show 1 ≤ q.2.fdiv (gcdW r)
    have g0 := gcdW_pos h
    have g1 := gcdW_dvd hq
    have g2 := h.w1 q hq
    rw [Int.fdiv_eq_ediv_of_nonneg _ (by omega)]
    have := Int.ediv_pos_of_pos_of_dvd (a := q.2) (b := gcdW r) (by omega) (by omega) g1
    omega
  len := by rw [least_len]; exact h.len
  bd := fun p hp => by
    obtain ⟨q, hq, rfl⟩ := List.mem_map.mp ((least_perm h).mem_iff.mp hp)
    show (q.2.fdiv (gcdW r)).natAbs < 2 ^ k
    have g0 := gcdW_pos h
    have g2 := h.w1 q hq
    have b := h.bd q hq
    rw [Int.fdiv_eq_ediv_of_nonneg _ (by omega)]
    have := Int.ediv_le_self (a := q.2) (gcdW r) (by omega)
    have := Int.ediv_nonneg (a := q.2) (b := gcdW r) (by omega) (by omega)
    omega
theorem q_pairs : F_Urn_pairs [.pu (urnP r)] = some (.ok (.ow (.lst (r.map encW))), [.pu (urnP r)]) := by
  simp [F_Urn_pairs, b_Urn_pairs]
def chc (r : List (Int × Int)) (w : Int) : Rat := (((aget r w).getD 0 : Int) : Rat) / (tot r : Int)
def wsm (f : Int × Int → Int) (r : List (Int × Int)) : Int := (r.map f).sum
end
section
variable {k : Nat} {r : List (Int × Int)}
def alc (r : List (Int × Int)) (t : Rat) : Rat := ((((r.filter fun p => decide (t ≤ (p.1 : Rat))).map (·.2)).sum : Int) : Rat) / (tot r : Int)
def xcs (t : Rat) (p : Int × Int) : Rat := (p.2 : Rat) * ((p.1 : Rat) - t)
theorem mul_bd {a b : Int} {i j : Nat} (ha : a.natAbs < 2 ^ i) (hb : b.natAbs < 2 ^ j) : (a * b).natAbs < 2 ^ (i + j) := (@bn_mul a b i j ⟨ha⟩ ⟨hb⟩).h
def abv (r : List (Int × Int)) (t : Rat) : List (Int × Int) := r.filter fun p => decide (t < (p.1 : Rat))
def exc (r : List (Int × Int)) (t : Rat) : Rat := ((abv r t).map (xcs t)).sum / ((tot r : Int) : Rat)
end
/-- the sum of f over the worths for which P holds, by their weights -/
def RS (P : Int → Bool) (f : Int → Rat) (r : List (Int × Int)) : Rat := ((r.filter fun p => P p.1).map fun p => (p.2 : Rat) * f p.1).sum
section
variable {k : Nat} {r : List (Int × Int)}
end
end Y


namespace Y
open PySem PySem.Spec L2 PyProof.Rows
structure Dp (ps : List (Int × Int)) : Prop where
  nd : (ps.map (·.1)).Nodup
  w0 : ∀ p ∈ ps, 0 ≤ p.1
  w1 : ∀ p ∈ ps, p.1 ≤ 1000
  h0 : ∀ p ∈ ps, 1 ≤ p.2
  h1 : ∀ p ∈ ps, p.2 ≤ 1000
theorem Dp.gp {ps : List (Int × Int)} (h : Dp ps) (ne : ps ≠ []) (hl : ps.length ≤ 100) : GP 10 ps := ⟨ne, h.nd, h.w0, h.h0, by omega, fun p hp => by
  have := h.h0 p hp
  have := h.h1 p hp
  omega⟩
end Y


namespace Y
open PySem PySem.Spec L2 PyProof.Rows
def cumI (r : List (Int × Int)) (x : Int) : Int := ((r.filter fun p => decide (p.1 ≤ x)).map (·.2)).sum
theorem cumI_nil (x : Int) : cumI [] x = 0 := rfl
theorem cumI_all {r : List (Int × Int)} {x : Int} (h : ∀ p ∈ r, p.1 ≤ x) : cumI r x = tot r := by
  unfold cumI tot
  rw [List.filter_eq_self.mpr fun p hp => by simpa using h p hp]
/-- the increments of C along ws -/
def gpS (C : Int → Int) : List Int → List (Int × Int) → Int → List (Int × Int)
  | [], acc, _ => acc
  | w :: ws, acc, b => if b < C w then gpS C ws (acc ++ [(w, C w - b)]) (C w) else gpS C ws acc b
/-- C grows at the places ks alone -/
structure Stp (C : Int → Int) (ks : List Int) : Prop where
  mono : ∀ x y, x ≤ y → C x ≤ C y
  const : ∀ x y, x ≤ y → (∀ k ∈ ks, ¬ (x < k ∧ k ≤ y)) → C x = C y
  zero : ∀ x, (∀ k ∈ ks, x < k) → C x = 0
  nn : ∀ x, 0 ≤ C x
/-- how it stands on the way -/
structure Gst (C : Int → Int) (ks pre rest : List Int) (acc : List (Int × Int)) (b : Int) : Prop where
  cum : ∀ x, (∀ w ∈ rest, x < w) → cumI acc x = C x
  tot : tot acc = b
  le : ∀ p ∈ acc, ∀ w ∈ rest, p.1 ≤ w
  bC : ∀ w ∈ rest, b ≤ C w
  cl : ∀ p ∈ acc, C p.1 ≤ b
  nd : (acc.map (·.1)).Nodup
  pos : ∀ p ∈ acc, 1 ≤ p.2
  sub : ∀ p ∈ acc, p.1 ∈ ks
  bd : ∀ p ∈ acc, ∃ w ∈ ks, p.2 ≤ C w
  bn : 0 ≤ b
end Y
namespace Y
open PySem PySem.Spec L2 PyProof.Rows
/-- the weights of the greater one -/
def gC (r s : List (Int × Int)) (x : Int) : Int := cumI r x * cumI s x
def gks (r s : List (Int × Int)) : List Int := r.map (·.1) ++ s.map (·.1)
def gp (r s : List (Int × Int)) : List (Int × Int) := gpS (gC r s) (srt (gks r s)) [] 0
theorem GP.nn {k : Nat} {r : List (Int × Int)} (h : GP k r) : ∀ p ∈ r, 0 ≤ p.2 := fun p hp => by
  have := h.w1 p hp
  omega
section
variable {k l : Nat} {r s : List (Int × Int)}
end
end Y


namespace Y
open PySem PySem.Spec L2 PyProof.Rows
instance de_W : DE encW 1 := de_pair (enc := PV.int) (enc2 := PV.int)
def wt (r : List (Int × Int)) (w : Int) : Int := (aget r w).getD 0
@[simp] theorem isi_uob {xs : List PV} : bIsi isiG [.obj .Urn xs, .cls .Urn] = some (.bl true) := by simp [bIsi, tgOf, isiG, isiT, isiC, bnames]
theorem aget_is : ∀ (r : List (Int × Int)) (w : Int), (aget r w).isSome = decide (w ∈ r.map (·.1))
  | [], w => rfl
  | p :: r, w => by
    unfold aget
    by_cases q : p.1 = w
    · rw [if_pos q, decide_eq_true (by rw [List.map_cons, q]; exact List.mem_cons_self ..)]
      rfl
    · rw [if_neg q, aget_is r w, List.map_cons]
      congr 1
      rw [List.mem_cons]
      exact propext ⟨.inr, fun z => z.elim (fun e => absurd e.symm q) id⟩
section
variable {k l : Nat} {r s : List (Int × Int)}
end
end Y


namespace Y
open PySem PySem.Spec L2 PyProof.Rows
@[simp] theorem oB_uu {tab : Cid → Option Fn} {ti : Cid → Bool} {r s : List (Int × Int)} : oB tab ti (urnP r) (urnP s) = tbK (tab .Urn) [urnP r, urnP s] := by
  unfold oB tbK urnP
  cases h : tab .Urn <;> simp [h]
@[simp] theorem oCm_uu {tab : Cid → Option Fn} {r s : List (Int × Int)} : oCm tab (urnP r) (urnP s) = tbK (tab .Urn) [urnP r, urnP s] := by
  unfold oCm tbK urnP
  cases h : tab .Urn <;> simp [h]
@[simp] theorem isD_urn {r : List (Int × Int)} : (urnP r).isD = false := rfl
section
variable {k l : Nat} {r s : List (Int × Int)}
theorem b_lst (h : r.length ≤ 16777216) : bListOb (fiL [(.Urn, 0)]) [urnP r] = some (r.map encW) := by
  unfold bListOb
  rw [urnP_ap]
  simp [fldL, fiL, List.lookup, flds, h]
theorem ll_1 (c0 : Sl) : ∀ (q : List (Int × Int)) (g : Int) (s2 s3 : Sl), (∀ x, s2 ≠ .io x) → (∀ x, s3 ≠ .io x) → ∃ s2' s3' : Sl, (∀ x, s2' ≠ .io x) ∧ (∀ x, s3' ≠ .io x) ∧
    forL (gT (gsCons (gN 2) (gsCons (gN 3) gsNil))) w_l_least_08_1 [] (q.map encW) [c0, .pu (.int g), s2, s3, .un, .un] = some (.nx, [c0, .pu (.int (q.foldl (fun g p => (Int.gcd g p.2 : Int)) g)), s2', s3', .un, .un])
  | [], g, s2, s3, h2, h3 => ⟨s2, s3, h2, h3, rfl⟩
  | p :: q, g, s2, s3, h2, h3 => by
    obtain ⟨s2', s3', h2', h3', e⟩ := ll_1 c0 q (Int.gcd g p.2) (.pu (.int p.1)) (.pu (.int p.2)) (fun x z => by cases z) (fun x z => by cases z)
    refine ⟨s2', s3', h2', h3', ?_⟩
    have t : fT (gT (gsCons (gN 2) (gsCons (gN 3) gsNil))) w_l_least_08_1 [] (encW p) [c0, .pu (.int g), s2, s3, .un, .un] = some (.nx, [c0, .pu (.int (Int.gcd g p.2)), .pu (.int p.1), .pu (.int p.2), .un, .un]) := by
      rw [fT_ap, encW_ap]
      cases s2 with
      | io x => exact absurd rfl (h2 x)
      | _ =>
        cases s3 with
        | io x => exact absurd rfl (h3 x)
        | _ => simp [w_l_least_08_1, wipeR, wipe1]
    rw [List.map_cons, forL_cons, t, goK_nx, e]
    rfl
theorem one_of {ps : List (Int × Int)} (nd : (ps.map (·.1)).Nodup) {p : Int × Int} (hp : p ∈ ps) : (ps.filter fun q => decide (q.1 = p.1)) = [p] := by
  induction ps with
  | nil => simp at hp
  | cons q ps ih =>
    have nd2 := List.nodup_cons.mp nd
    rw [List.filter_cons]
    rcases List.mem_cons.mp hp with e | h
    · subst e
      rw [if_pos (by simp)]
      congr 1
      rw [List.filter_eq_nil_iff]
      intro x hx
      have : x.1 ≠ p.1 := fun z => nd2.1 (List.mem_map.mpr ⟨x, hx, z⟩)
      simpa using this
    · have : q.1 ≠ p.1 := fun z => nd2.1 (List.mem_map.mpr ⟨p, h, z.symm⟩)
      rw [if_neg (by simpa using this)]
      exact ih nd2.2 h
theorem ll_2 {ps : List (Int × Int)} (h : GP k ps) (hk : k ≤ 3000) : ∀ (ws : List Int) (acc : List (Int × Int)), (∀ w ∈ ws, w ∈ ps.map (·.1)) → acc.length + ws.length ≤ 20000 →
    forL (gN 2) w_l_least_08_4 [2] (ws.map PV.int) [.pu (.lst (ps.map encW)), .pu (.int (gcdW ps)), .un, .un, .ow (.lst (acc.map encW)), .un] = some (.nx, [.pu (.lst (ps.map encW)), .pu (.int (gcdW ps)), .un, .un, .ow (.lst ((acc ++ ws.map fun w => (w, (wt ps w).fdiv (gcdW ps))).map encW)), .un])
  | [], acc, _, _ => by rw [List.map_nil, List.map_nil, List.append_nil]; rfl
  | w :: ws, acc, hw, hl => by
    obtain ⟨p, hp, e1⟩ := List.mem_map.mp (hw w (List.mem_cons_self ..))
    rw [List.length_cons] at hl
    have ew : wt ps w = p.2 := by
      unfold wt
      rw [← e1, aget_mem h.nd hp]
      rfl
    have hb : Bn (gcdW ps) k := ⟨gcdW_le h⟩
    have hg : gcdW ps ≠ 0 := by have := gcdW_pos h; omega
    have l1 : ∀ c4 : Sl, lcLc (okH 0 (ps.map encW, false)) (gT (gsCons (gN 5) (gsCons (gN 3) gsNil))) t_l_least_08_3 e_l_least_08_3 [5, 3] (ps.map encW) [] [.pu (.lst (ps.map encW)), .pu (.int (gcdW ps)), .pu (.int w), .un, c4, .un] = some ([encW (w, (wt ps w).fdiv (gcdW ps))], [.pu (.lst (ps.map encW)), .pu (.int (gcdW ps)), .pu (.int w), .un, c4, .un]) := by
      intro c4
      refine (lc_map (enc := encW) (enc2 := encW) (p := fun q => decide (q.1 = p.1)) (f := fun q => (w, q.2.fdiv (gcdW ps))) ?_ ?_ ps [] (by have := h.len; simp; omega) ?_).trans ?_
      · intro z; cases z
      · rfl
      · intro q hq
        rw [encW_ap, encW_ap]
        generalize ps.map encW = PS at *
        generalize gcdW ps = G at *
        subst e1
        by_cases z : q.1 = p.1
        · simp [lT, t_l_least_08_3, e_l_least_08_3, z, hg, hk, wipeR, wipe1]
        · simp [lT, t_l_least_08_3, e_l_least_08_3, z, hg, hk, wipeR, wipe1]
      · rw [one_of h.nd hp, ew]
        rfl
    have la : (acc.map encW).length ≤ 16777215 := by rw [List.length_map]; omega
    have ea : acc.map encW ++ [encW (w, (wt ps w).fdiv (gcdW ps))] = (acc ++ [(w, (wt ps w).fdiv (gcdW ps))]).map encW := by rw [List.map_append]; rfl
    have t : fT (gN 2) w_l_least_08_4 [2] (.int w) [.pu (.lst (ps.map encW)), .pu (.int (gcdW ps)), .un, .un, .ow (.lst (acc.map encW)), .un] = some (.nx, [.pu (.lst (ps.map encW)), .pu (.int (gcdW ps)), .un, .un, .ow (.lst ((acc ++ [(w, (wt ps w).fdiv (gcdW ps))]).map encW)), .un]) := by
      rw [fT_ap, ← ea]
      clear ea
      generalize encW (w, (wt ps w).fdiv (gcdW ps)) = W at *
      generalize ps.map encW = PS at *
      generalize acc.map encW = A at *
      simp [w_l_least_08_4, l1, la, wipeR, wipe1]
    rw [List.map_cons, forL_cons, t, goK_nx, ll_2 h hk ws _ (fun v hv => hw v (List.mem_cons_of_mem _ hv)) (by simp; omega)]
    simp
theorem q_lleast {ps : List (Int × Int)} (h : GP k ps) (hk : k ≤ 3000) : F_l_least_08 [.pu (.lst (ps.map encW))] = some (.ok (.ow (.lst ((least ps).map encW))), [.pu (.lst (ps.map encW))]) := by
  obtain ⟨s2, s3, h2, h3, e1⟩ := ll_1 (.pu (.lst (ps.map encW))) ps 0 .un .un (fun x z => by cases z) (fun x z => by cases z)
  have eg : ps.foldl (fun g p => (Int.gcd g p.2 : Int)) 0 = gcdW ps := rfl
  rw [eg] at e1
  have e2 := ll_2 h hk (srt (ps.map (·.1))) [] (fun w hw => (srt_perm _).mem_iff.mp hw) (by have := h.len; rw [(srt_perm _).length_eq]; simp; omega)
  have el : (srt (ps.map (·.1))).map (fun w => (w, (wt ps w).fdiv (gcdW ps))) = least ps := rfl
  rw [el, List.nil_append, List.map_nil] at e2
  have l1 : ∀ c1 c4 : Sl, lcLc (okH 0 (ps.map encW, false)) (gT (gsCons (gN 2) (gsCons (gN 3) gsNil))) t_l_least_08_2 e_l_least_08_2 [2, 3] (ps.map encW) [] [.pu (.lst (ps.map encW)), c1, .un, .un, c4, .un] = some ((ps.map (·.1)).map PV.int, [.pu (.lst (ps.map encW)), c1, .un, .un, c4, .un]) := by
    intro c1 c4
    refine (lc_map (enc := encW) (enc2 := PV.int) (p := fun _ => true) (f := fun q => q.1) ?_ ?_ ps [] (by have := h.len; simp; omega) ?_).trans ?_
    · intro z; cases z
    · rfl
    · intro q hq
      rw [encW_ap]
      generalize ps.map encW = PS at *
      simp [lT, t_l_least_08_2, e_l_least_08_2, wipeR, wipe1]
    · rw [List.filter_eq_self.mpr fun _ _ => rfl]
      rfl
  generalize ps.map (fun x => x.1) = NS at *
  generalize (least ps).map encW = LS at *
  generalize ps.map encW = PS at *
  generalize gcdW ps = G at *
  cases s2 with
  | io x => exact absurd rfl (h2 x)
  | _ =>
    cases s3 with
    | io x => exact absurd rfl (h3 x)
    | _ => simp [F_l_least_08, b_l_least_08, e1, e2, l1, wipeR, wipe1]
theorem q_told (h : GP k r) : F_l_told_08 [.pu (urnP r), .pu (.lst (r.map encW))] = some (.ok (.pu (.bl true)), [.pu (urnP r), .pu (.lst (r.map encW))]) := by
  have hl := h.len
  have q := q_pairs (r := r)
  have bl := b_lst (r := r) (by omega)
  have e1 : forL (gN 3) w_l_told_08_1 [3] (rngP 0 (r.map encW).length) [.pu (urnP r), .pu (.lst (r.map encW)), .ow (.lst (r.map encW)), .un] = some (.nx, [.pu (urnP r), .pu (.lst (r.map encW)), .ow (.lst (r.map encW)), .un]) := by
    rw [rng_ints]
    refine for_all (gm := gN 3) (b := w_l_told_08_1) (fg := [3]) (enc := PV.int) _ fun i hi => ?_
    obtain ⟨n, hn, rfl⟩ := List.mem_map.mp hi
    have hn2 := List.mem_range.mp hn
    obtain ⟨y, h1, h2⟩ := atI_mem (r.map encW) (i := 0 + (n : Int)) (by omega) (by omega)
    obtain ⟨p, hp, rfl⟩ := List.mem_map.mp h2
    have ne := oNeD_e (enc := encW) (by omega) p p
    rw [decide_eq_true rfl] at ne
    have z0 : (0 : Int) + (n : Int) = n := by omega
    rw [fT_ap]
    rw [encW_ap] at h1 ne
    rw [z0] at h1 ⊢
    generalize r.map encW = R at *
    generalize urnP r = U at *
    simp [w_l_told_08_1, h1, ne, wipeR, wipe1]
  have oe := oNeD_l (enc := encW) (by omega) r r
  rw [decide_eq_true rfl] at oe
  have rb : RngB (((r.map encW).length : Int)) := RngB.of (by omega) (by simp; omega)
  generalize r.map encW = R at *
  simp [F_l_told_08, b_l_told_08, q, bl, e1, oe, rb, wipeR, wipe1]
end
end Y


namespace Y
open PySem PySem.Spec L2 PyProof.Rows
def adI (r : List (Int × Int)) (w v : Int) : List (Int × Int) := (r.filter fun p => !decide (p.1 = w)) ++ [(w, ((r.filter fun p => decide (p.1 = w)).map (·.2)).sum + v)]
structure Ad (r : List (Int × Int)) : Prop where
  nd : (r.map (·.1)).Nodup
  w0 : ∀ p ∈ r, 0 ≤ p.1
  h0 : ∀ p ∈ r, 1 ≤ p.2
theorem sum_nn : ∀ {ws : List Int}, (∀ x ∈ ws, 0 ≤ x) → 0 ≤ ws.sum
  | [], _ => Int.le_refl 0
  | x :: ws, h => by
    rw [List.sum_cons]
    have := h x (List.mem_cons_self ..)
    have := sum_nn fun y hy => h y (List.mem_cons_of_mem _ hy)
    omega
def lgI (p : Int × Int) (qs acc : List (Int × Int)) : List (Int × Int) := qs.foldl (fun acc q => adI acc (max p.1 q.1) (p.2 * q.2)) acc
def lg (ps qs : List (Int × Int)) (acc : List (Int × Int)) : List (Int × Int) := ps.foldl (fun acc p => lgI p qs acc) acc
theorem cum_const_len {r : List (Int × Int)} : ∃ m : Int, ∀ p ∈ r, p.1 ≤ m := by
  induction r with
  | nil => exact ⟨0, fun p hp => by simp at hp⟩
  | cons a q ih =>
    obtain ⟨m, hm⟩ := ih
    refine ⟨max a.1 m, fun p hp => ?_⟩
    rcases List.mem_cons.mp hp with e | hp
    · rw [e]; omega
    · have := hm p hp; omega
theorem le_tot {r : List (Int × Int)} (h : ∀ p ∈ r, 0 ≤ p.2) {p : Int × Int} (hp : p ∈ r) : p.2 ≤ tot r := by
  induction r with
  | nil => simp at hp
  | cons q r ih =>
    have e : tot (q :: r) = q.2 + tot r := by unfold tot; rw [List.map_cons, List.sum_cons]
    have h2 : 0 ≤ tot r := sum_nn fun x hx => by
      obtain ⟨z, hz, rfl⟩ := List.mem_map.mp hx
      exact h z (List.mem_cons_of_mem _ hz)
    have h1 := h q (List.mem_cons_self ..)
    rw [e]
    rcases List.mem_cons.mp hp with z | z
    · rw [z]; omega
    · have := ih (fun z hz => h z (List.mem_cons_of_mem _ hz)) z
      omega
/-- rows whose sums are bounded -/
theorem Ad.gp {r : List (Int × Int)} {k : Nat} (h : Ad r) (hl : r.length ≤ 10000) (hb : ∀ x, cumI r x < 2 ^ k) (hp : ∃ x, 0 < cumI r x) : GP k r := by
  obtain ⟨m, hm⟩ := cum_const_len (r := r)
  have nn : ∀ p ∈ r, 0 ≤ p.2 := fun p hp => by have := h.h0 p hp; omega
  have t := hb m
  rw [cumI_all hm] at t
  refine ⟨fun e => ?_, h.nd, h.w0, h.h0, hl, fun p hp => ?_⟩
  · obtain ⟨x, hx⟩ := hp
    rw [e, cumI_nil] at hx
    omega
  · have := le_tot nn hp
    have := h.h0 p hp
    have : (p.2.natAbs : Int) < 2 ^ k := by omega
    exact_mod_cast this
section
variable {k l : Nat} {ps qs : List (Int × Int)}
def bst (r : List (Int × Int)) : Nat → List (Int × Int)
  | 0 => r
  | n + 1 => least (gp (bst r n) r)
def pC (r : List (Int × Int)) (n : Nat) (x : Int) : Int := cumI r x ^ (n + 1)
def bp (r : List (Int × Int)) (n : Nat) : List (Int × Int) := gpS (pC r n) (srt (r.map (·.1))) [] 0
instance bn_pow {a : Int} {j : Nat} [ha : Bn a j] (n : Nat) : Bn (a ^ n) (j * n + 1) := ⟨by
  induction n with
  | zero => simp
  | succ n ih =>
    have := mul_bd ih ha.h
    rw [Int.pow_succ]
    have e : j * n + 1 + j = j * (n + 1) + 1 := by rw [Nat.mul_add]; omega
    rw [e] at this
    exact this⟩
end
end Y


namespace Y
open PySem PySem.Spec L2 PyProof.Rows
theorem aput_keys (l : List (Int × Int)) (k v : Int) : (aput l k v).map (·.1) = if k ∈ l.map (·.1) then l.map (·.1) else l.map (·.1) ++ [k] := by
  unfold aput
  rw [aget_is]
  by_cases h : k ∈ l.map (·.1)
  · rw [if_pos (by simpa using h), if_pos h, List.map_map]
    apply List.map_congr_left
    intro p _
    show (if p.1 = k then (p.1, v) else p).1 = p.1
    split <;> rfl
  · rw [if_neg (by simpa using h), if_neg h, List.map_append]
    rfl
theorem Ad.put {l : List (Int × Int)} (h : Ad l) {k v : Int} (hk : 0 ≤ k) (hv : 1 ≤ v) : Ad (aput l k v) := by
  refine ⟨?_, ?_, ?_⟩
  · rw [aput_keys]
    split
    · exact h.nd
    · rename_i q
      exact List.nodup_append.mpr ⟨h.nd, by simp, fun x hx y hy e => by simp at hy; subst hy; subst e; exact q hx⟩
  · intro p hp
    have m : p.1 ∈ (aput l k v).map (·.1) := List.mem_map_of_mem hp
    rw [aput_keys] at m
    have key : p.1 ∈ l.map (·.1) → 0 ≤ p.1 := fun hm => by
      obtain ⟨q, hq, e⟩ := List.mem_map.mp hm
      rw [← e]
      exact h.w0 q hq
    split at m
    · exact key m
    · rcases List.mem_append.mp m with z | z
      · exact key z
      · simp at z; rw [z]; exact hk
  · intro p hp
    unfold aput at hp
    split at hp
    · obtain ⟨q, hq, e⟩ := List.mem_map.mp hp
      split at e
      · rw [← e]; exact hv
      · rw [← e]; exact h.h0 q hq
    · rcases List.mem_append.mp hp with z | z
      · exact h.h0 p z
      · simp at z; rw [z]; exact hv
def mx1 (c : Int) (r acc : List (Int × Int)) : List (Int × Int) := r.foldl (fun acc p => aput acc p.1 (c * p.2)) acc
def mx2 (c : Int) (s acc : List (Int × Int)) : List (Int × Int) := s.foldl (fun acc p => aput acc p.1 (wt acc p.1 + c * p.2)) acc
/-- a mixture -/
def mx (a : Int) (r : List (Int × Int)) (b : Int) (s : List (Int × Int)) : List (Int × Int) := mx2 (b * tot r) s (mx1 (a * tot s) r [])
section
variable {k l : Nat} {r s : List (Int × Int)}
theorem GP.ad (h : GP k r) : Ad r := ⟨h.nd, h.w0, h.w1⟩
def mL (a : Int) (ps : List (Int × Int)) (b : Int) (qs : List (Int × Int)) : List (Int × Int) :=
  (ps.map fun p => (p.1, a * p.2 * tot qs + b * wt qs p.1 * tot ps)) ++ ((qs.filter fun q => decide (wt ps q.1 = 0)).map fun q => (q.1, b * q.2 * tot ps))
end
end Y


namespace Y
open PySem PySem.Spec L2 PyProof.Rows
def isum (F : Int → Int) (r : List (Int × Int)) : Int := (r.map fun p => p.2 * F p.1).sum
def VI (F : Int → Int) (r : List (Int × Int)) : Rat := ((isum F r : Int) : Rat) / ((tot r : Int) : Rat)
section
variable {k l : Nat} {r s : List (Int × Int)}
/-- the four questions -/
def fEq (w x : Int) : Int := if x = w then 1 else 0
def fGe (t x : Int) : Int := if t ≤ x then 1 else 0
def fLt (t x : Int) : Int := if x < t then 1 else 0
def fEx (t x : Int) : Int := if t < x then x - t else 0
end
end Y


namespace Y
open PySem PySem.Spec L2 PyProof.Rows
abbrev encR (ps : List (Int × Int)) : PV := encL encW ps
/-- drawn rows -/
structure Dr (m : Nat) (ps : List (Int × Int)) : Prop extends Dp ps where
  ne : ps ≠ []
  ln : ps.length ≤ m
theorem Dr.gp {m : Nat} {ps : List (Int × Int)} (h : Dr m ps) (hm : m ≤ 100) : GP 10 ps := h.toDp.gp h.ne (by have := h.ln; omega)
end Y


namespace Y
open PySem PySem.Spec L2 PyProof.Rows
/-- texts that can stand in data -/
def TX : Type := { s : Str // PyData.strOk s = true }
instance : DecidableEq TX := inferInstanceAs (DecidableEq { s : Str // PyData.strOk s = true })
def encT (s : TX) : PV := .str s.1
instance de_tx : DE encT 0 := ⟨fun s => PyData.str s.1, fun _ => rfl, fun s => s.2, fun _ => Nat.le_refl 0, fun a b => by
  show (a.1 == b.1) = true ↔ a = b
  rw [beq_iff_eq]
  exact ⟨Subtype.ext, fun e => by rw [e]⟩⟩
theorem sok_app {x y : Str} (hx : PyData.strOk x = true) (hy : PyData.strOk y = true) : PyData.strOk (x ++ y) = true := by
  show (x.cps ++ y.cps).all (· < 0x110000) = true
  rw [Array.all_append]
  exact Bool.and_eq_true_iff.mpr ⟨hx, hy⟩
theorem len_app (x y : Str) : (x ++ y).length = x.length + y.length := by
  show (x.cps ++ y.cps).size = _
  rw [Array.size_append]
  rfl
/-- a text of at most n signs -/
structure SOk (x : Str) (n : Nat) : Prop where
  o : PyData.strOk x = true
  l : x.length ≤ n
theorem SOk.app {x y : Str} {n m : Nat} (hx : SOk x n) (hy : SOk y m) : SOk (x ++ y) (n + m) := ⟨sok_app hx.o hy.o, by rw [len_app]; have := hx.l; have := hy.l; omega⟩
theorem SOk.le {x : Str} {n m : Nat} (h : SOk x n) (hm : n ≤ m) : SOk x m := ⟨h.o, Nat.le_trans h.l hm⟩
theorem oAddS_s {x y : Str} {n m : Nat} (hx : SOk x n) (hy : SOk y m) (h : n + m ≤ 10000000) : oAddS (.str x) (.str y) = some (.str (x ++ y)) := by
  have := hx.l
  have := hy.l
  unfold oAddS
  dsimp only
  rw [if_pos (by omega)]
/-- a sign of a text -/
theorem ix_str {x : Str} {n : Nat} (hx : SOk x n) (hn : n ≤ 10000000) {i : Int} (h0 : 0 ≤ i) (h1 : i < x.length) : ∃ c : Str, SOk c 1 ∧ c.length = 1 ∧ ixP (.str x) (.int i) = some (.str c) := by
  obtain ⟨k, rfl⟩ := Int.eq_ofNat_of_zero_le h0
  have hk : k < x.cps.toList.length := by
    show k < x.cps.size
    have : x.length = x.cps.size := rfl
    omega
  have hl := hx.l
  refine ⟨⟨#[x.cps.toList[k]]⟩, ⟨?_, Nat.le_refl 1⟩, rfl, ?_⟩
  · have h := hx.o
    unfold PyData.strOk at h
    rw [Array.all_eq_true'] at h
    show (#[x.cps.toList[k]]).all (· < 0x110000) = true
    simp only [Array.all_eq_true']
    intro y hy
    have hy : y = x.cps.toList[k] := by simpa using hy
    rw [hy]
    exact h _ (Array.mem_def.mpr (List.getElem_mem hk))
  · unfold ixP
    dsimp only
    rw [if_pos (by omega), atI_n _ _ hk]
    rfl
end Y


namespace Y
open PySem PySem.Spec L2 PyProof.Rows
/-- the text of an integer -/
def tI (i : Int) : Str := toString i
theorem sok_of (s : String) : PyData.strOk (Str.ofString s) = true := by
  unfold PyData.strOk
  rw [PySem.Str.ofString_eq_toList]
  rw [Array.all_eq_true']
  intro x hx
  have hx : x ∈ s.toList.map Char.toNat := by simpa using hx
  obtain ⟨c, _, rfl⟩ := List.mem_map.mp hx
  have h := c.valid
  refine decide_eq_true ?_
  rcases h with h | ⟨_, h⟩
  · show c.val.toNat < _
    have : c.val.toNat < 0xd800 := h
    omega
  · exact h
theorem len_of (s : String) : (Str.ofString s).length = s.length := by
  show (Str.ofString s).cps.size = _
  rw [PySem.Str.ofString_eq_toList]
  simp [String.length]
theorem sok_tI (i : Int) {k : Nat} [h : Bn i k] (hk : 0 < k) : SOk (tI i) (k + 1) := by
  refine ⟨sok_of _, ?_⟩
  show (Str.ofString (toString i)).length ≤ _
  rw [len_of]
  have h0 := h.h
  by_cases z : i.natAbs = 0
  · have : i = 0 := Int.natAbs_eq_zero.mp z
    subst this
    show 1 ≤ k + 1
    omega
  · exact int_text_length_le hk ((Nat.log2_lt z).mpr h0)
theorem bStr_i (i : Int) {k : Nat} [h : Bn i k] (hk : k ≤ 1900) : bStr [.int i] = some (.str (tI i)) := by
  unfold bStr
  dsimp only
  rw [if_pos]
  · rfl
  · show i.natAbs.log2 < 1920
    have h0 := h.h
    have h6 : i.natAbs < 2 ^ 1920 := Nat.lt_of_lt_of_le h0 (Nat.pow_le_pow_right (by decide) (by omega))
    by_cases z : i.natAbs = 0
    · rw [z]; decide
    · exact (Nat.log2_lt z).mpr h6
/-- the text of an amount -/
def tQ (q : Rat) : Str := if q.den = 1 then tI q.num else tI q.num ++ "/" ++ tI (q.den : Int)
theorem sok_s (s : String) {n : Nat} (h : s.length ≤ n) : SOk (Str.ofString s) n := ⟨sok_of s, by rw [len_of]; exact h⟩
/-- the text of a pair -/
def tW (p : Int × Int) : Str := tI p.1 ++ ":" ++ tI p.2
/-- the text of an urn -/
def tU (r : List (Int × Int)) : Str := Txt.join "," (r.map tW)
end Y


namespace Y
open PySem PySem.Spec L2 PyProof.Rows
theorem lopv10 (xs : List PV) : F_is_list_of_pairs_v1 [.pu (.lst xs)] = F_is_list_of_pairs [.pu (.lst xs)] := by
  have w : w_is_list_of_pairs_v1_1 = w_is_list_of_pairs_1 := rfl
  simp [F_is_list_of_pairs_v1, b_is_list_of_pairs_v1, F_is_list_of_pairs, b_is_list_of_pairs, w]
theorem initv10 (xs : List PV) : F_Urn_init_v1 [.io (.obj .Urn []), .pu (.lst xs)] = F_Urn_init [.io (.obj .Urn []), .pu (.lst xs)] := by
  have a1 : w_Urn_init_v1_1 = w_Urn_init_1 := rfl
  have a2 : e_Urn_init_v1_2 = e_Urn_init_2 := rfl
  have a3 : t_Urn_init_v1_2 = t_Urn_init_2 := rfl
  have a4 : k_Urn_init_v1_2 = k_Urn_init_2 := rfl
  have a5 : e_Urn_init_v1_3 = e_Urn_init_3 := rfl
  have a6 : t_Urn_init_v1_3 = t_Urn_init_3 := rfl
  simp [F_Urn_init_v1, b_Urn_init_v1, F_Urn_init, b_Urn_init, lopv10, a1, a2, a3, a4, a5, a6]
/-- what Urn refuses -/
def Bad10 (x : PV) : Prop := F_Urn_init_v1 [.io (.obj .Urn []), .pu x] = some (.ex .InvalidUrn, [.io (.obj .Urn []), .pu x])
theorem bad_no {x : PV} (h : F_is_list_of_pairs_v1 [.pu x] = some (.ok (.pu (.bl false)), [.pu x])) : Bad10 x := by
  simp [Bad10, F_Urn_init_v1, b_Urn_init_v1, h]
theorem ref10 {x : PV} (h : Bad10 x) : F_l_refused_k10 [.pu x] = some (.ok (.pu (.bl true)), [.pu x]) := by
  unfold Bad10 at h
  simp [F_l_refused_k10, b_l_refused_k10, sTryKeep, keepE, h, isub]
theorem bad_non : Bad10 .non := bad_no (by simp [F_is_list_of_pairs_v1, b_is_list_of_pairs_v1, bIsiH, noDO, bIsi, tgOf, isiG, isiT, isiC, bnames])
theorem bad_bl (b : Bool) : Bad10 (.bl b) := bad_no (by simp [F_is_list_of_pairs_v1, b_is_list_of_pairs_v1, bIsiH, noDO, bIsi, tgOf, isiG, isiT, isiC, bnames])
theorem bad_int (i : Int) : Bad10 (.int i) := bad_no (by simp [F_is_list_of_pairs_v1, b_is_list_of_pairs_v1, bIsiH, noDO, bIsi, tgOf, isiG, isiT, isiC, bnames])
theorem bad_str (s : Str) : Bad10 (.str s) := bad_no (by simp [F_is_list_of_pairs_v1, b_is_list_of_pairs_v1, bIsiH, noDO, bIsi, tgOf, isiG, isiT, isiC, bnames])
theorem bad_tup (xs : List PV) : Bad10 (.tup xs) := bad_no (by simp [F_is_list_of_pairs_v1, b_is_list_of_pairs_v1, bIsiH, noDO, bIsi, tgOf, isiG, isiT, isiC, bnames])
theorem bad_dct (ks : List Key) (xs : List PV) : Bad10 (.dct ks xs) := bad_no (by simp [F_is_list_of_pairs_v1, b_is_list_of_pairs_v1, bIsiH, noDO, bIsi, tgOf, isiG, isiT, isiC, bnames])
theorem bad_obj (c : Cid) (xs : List PV) (h : c = .Urn ∨ c = .Amount) : Bad10 (.obj c xs) := bad_no (by rcases h with rfl | rfl <;> simp [F_is_list_of_pairs_v1, b_is_list_of_pairs_v1, bIsiH, noDO, bIsi, tgOf, isiG, isiT, isiC, bnames])
theorem bad_nil : Bad10 (.lst []) := bad_no (by simp [F_is_list_of_pairs_v1, b_is_list_of_pairs_v1])
def NPr (x : PV) : Prop := F_is_pair [.pu x] = some (.ok (.pu (.bl false)), [.pu x])
/-- good pairs -/
def GPs (ps : List (Int × Int)) : Prop := ∀ p ∈ ps, 0 ≤ p.1 ∧ 1 ≤ p.2
theorem lop_pre {s0 : Sl} : ∀ (pre : List (Int × Int)), GPs pre → ∀ (rest : List PV), forL (gN 1) w_is_list_of_pairs_1 [1] (pre.map encW ++ rest) [s0, .un] = forL (gN 1) w_is_list_of_pairs_1 [1] rest [s0, .un]
  | [], _, rest => rfl
  | p :: pre, h, rest => by
    have q := pair_ok (h p (List.mem_cons_self ..)).1 (h p (List.mem_cons_self ..)).2
    have ih := lop_pre (s0 := s0) pre (fun z hz => h z (List.mem_cons_of_mem _ hz)) rest
    have t : fT (gN 1) w_is_list_of_pairs_1 [1] (encW p) [s0, .un] = some (.nx, [s0, .un]) := by
      rw [fT_ap]
      generalize encW p = P at *
      simp [w_is_list_of_pairs_1, q, wipeR, wipe1]
    rw [List.map_cons, List.cons_append, forL_cons, t, goK_nx, ih]
theorem lop_bad {pre : List (Int × Int)} (h : GPs pre) {x : PV} (hx : NPr x) (post : List PV) : F_is_list_of_pairs_v1 [.pu (.lst (pre.map encW ++ x :: post))] = some (.ok (.pu (.bl false)), [.pu (.lst (pre.map encW ++ x :: post))]) := by
  rw [lopv10]
  have e := lop_pre (s0 := .pu (.lst (pre.map encW ++ x :: post))) pre h (x :: post)
  have t : fT (gN 1) w_is_list_of_pairs_1 [1] x [.pu (.lst (pre.map encW ++ x :: post)), .un] = some (.rt (.pu (.bl false)), [.pu (.lst (pre.map encW ++ x :: post)), .pu x]) := by
    unfold NPr at hx
    rw [fT_ap]
    generalize pre.map encW ++ x :: post = L at *
    simp [w_is_list_of_pairs_1, hx]
  rw [forL_cons, t] at e
  have l : (pre.map encW ++ x :: post).length ≠ 0 := by simp
  generalize pre.map encW ++ x :: post = L at *
  simp [F_is_list_of_pairs, b_is_list_of_pairs, e, l, wipeR, wipe1, goK]
theorem lop_all {ps : List (Int × Int)} (h : GPs ps) (ne : ps ≠ []) : F_is_list_of_pairs_v1 [.pu (.lst (ps.map encW))] = some (.ok (.pu (.bl true)), [.pu (.lst (ps.map encW))]) := by
  rw [lopv10]
  have e := lop_pre (s0 := .pu (.lst (ps.map encW))) ps h []
  rw [List.append_nil, for_nil] at e
  have l : (ps.map encW).length ≠ 0 := by simpa using ne
  generalize ps.map encW = PS at *
  simp [F_is_list_of_pairs, b_is_list_of_pairs, e, l, wipeR, wipe1]
theorem bad_mid {pre : List (Int × Int)} (h : GPs pre) {x : PV} (hx : NPr x) (post : List PV) : Bad10 (.lst (pre.map encW ++ x :: post)) := bad_no (lop_bad h hx post)
/-- a worth twice -/
theorem init_twice {all : List (Int × Int)} (c0 c1 : Sl) {p : Int × Int} (post : List PV) : ∀ (r acc : List (Int × Int)) (s3 s4 : Sl), acc ++ r = all → all.length ≤ 10000 → (all.map (·.1)).Nodup → p.1 ∈ all.map (·.1) → (∀ x, s3 ≠ .io x) → (∀ x, s4 ≠ .io x) →
    forL (gT (gsCons (gN 3) (gsCons (gN 4) gsNil))) w_Urn_init_1 [] (r.map encW ++ encW p :: post) [c0, c1, .ow (.dct (akeys acc) (avals PV.int acc)), s3, s4] = some (.ex .InvalidUrn, [c0, c1, .ow (.dct (akeys all) (avals PV.int all)), .pu (.int p.1), .pu (.int p.2)])
  | [], acc, s3, s4, ha, hl, nd, hp, h3, h4 => by
    rw [List.append_nil] at ha
    subst ha
    obtain ⟨q, hq, eq⟩ := List.mem_map.mp hp
    have v : valX (.inl p.1) (akeys acc) (avals PV.int acc) = some (.int q.2) := by
      rw [← eq]
      exact dgv_turn nd hq
    rw [List.map_nil, List.nil_append, forL_cons, fT_ap, encW_ap]
    generalize akeys acc = KS at *
    generalize avals PV.int acc = VS at *
    cases s3 with
    | io x => exact absurd rfl (h3 x)
    | _ =>
      cases s4 with
      | io x => exact absurd rfl (h4 x)
      | _ => simp [w_Urn_init_1, v, goK]
  | a :: r, acc, s3, s4, ha, hl, nd, hp, h3, h4 => by
    have ih := init_twice c0 c1 (p := p) post r (acc ++ [a]) (.pu (.int a.1)) (.pu (.int a.2)) (by rw [← ha]; simp) hl nd hp (fun x z => by cases z) (fun x z => by cases z)
    have hn : a.1 ∉ acc.map (·.1) := fun z => by
      rw [← ha, List.map_append, List.nodup_append] at nd
      exact nd.2.2 _ z _ (by rw [List.map_cons]; exact List.mem_cons_self ..) rfl
    have v : valX (.inl a.1) (akeys acc) (avals PV.int acc) = none := by rw [valX_a, aget_none hn]; rfl
    have pk : putX (.inl a.1) (.int a.2) (akeys acc) (avals PV.int acc) = (akeys (acc ++ [a]), avals PV.int (acc ++ [a])) := by
      rw [putX_a (enc := PV.int)]
      have : aput acc a.1 a.2 = acc ++ [a] := by
        unfold aput
        rw [aget_none hn]
        rfl
      rw [this]
    have al : (avals PV.int acc).length < 16777216 := by
      rw [avals_len]
      have := congrArg List.length ha
      simp at this
      omega
    have t : fT (gT (gsCons (gN 3) (gsCons (gN 4) gsNil))) w_Urn_init_1 [] (encW a) [c0, c1, .ow (.dct (akeys acc) (avals PV.int acc)), s3, s4] = some (.nx, [c0, c1, .ow (.dct (akeys (acc ++ [a])) (avals PV.int (acc ++ [a]))), .pu (.int a.1), .pu (.int a.2)]) := by
      rw [fT_ap, encW_ap]
      generalize akeys (acc ++ [a]) = KS2 at *
      generalize avals PV.int (acc ++ [a]) = VS2 at *
      generalize akeys acc = KS at *
      generalize avals PV.int acc = VS at *
      cases s3 with
      | io x => exact absurd rfl (h3 x)
      | _ =>
        cases s4 with
        | io x => exact absurd rfl (h4 x)
        | _ => simp [w_Urn_init_1, v, pk, al, wipeR, wipe1]
    rw [List.map_cons, List.cons_append, forL_cons, t, goK_nx, ih]
theorem bad_two {pre post : List (Int × Int)} {p : Int × Int} (h : GPs (pre ++ p :: post)) (nd : (pre.map (·.1)).Nodup) (hp : p.1 ∈ pre.map (·.1)) (hl : pre.length ≤ 10000) : Bad10 (.lst ((pre ++ p :: post).map encW)) := by
  have e1 := lop_all h (by simp)
  have e2 := init_twice (all := pre) (.io (.obj .Urn [])) (.pu (.lst ((pre ++ p :: post).map encW))) (p := p) (post.map encW) pre [] .un .un rfl hl nd hp (fun x z => by cases z) (fun x z => by cases z)
  have ee : pre.map encW ++ encW p :: post.map encW = (pre ++ p :: post).map encW := by simp
  have n1 : akeys ([] : List (Int × Int)) = [] := rfl
  have n2 : avals PV.int ([] : List (Int × Int)) = [] := rfl
  rw [ee, n1, n2] at e2
  have a1 : w_Urn_init_v1_1 = w_Urn_init_1 := rfl
  generalize (pre ++ p :: post).map encW = PS at *
  generalize akeys pre = KP at *
  generalize avals PV.int pre = VP at *
  simp [Bad10, F_Urn_init_v1, b_Urn_init_v1, e1, e2, a1, wipeR, wipe1]
/-- .. anywhere -/
theorem bad_dup {ps : List (Int × Int)} (h : GPs ps) (nd : ¬ (ps.map (·.1)).Nodup) (hl : ps.length ≤ 10000) : Bad10 (.lst (ps.map encW)) := by
  -- the first worth that stands ahead
  have split : ∀ (r acc : List (Int × Int)), (acc.map (·.1)).Nodup → ¬ ((acc ++ r).map (·.1)).Nodup → ∃ pre p post, acc ++ r = pre ++ p :: post ∧ (pre.map (·.1)).Nodup ∧ p.1 ∈ pre.map (·.1) := by
    intro r
    induction r with
    | nil => intro acc h1 h2; rw [List.append_nil] at h2; exact absurd h1 h2
    | cons a r ih =>
      intro acc h1 h2
      by_cases ha : a.1 ∈ acc.map (·.1)
      · exact ⟨acc, a, r, rfl, h1, ha⟩
      · obtain ⟨pre, p, post, e1, e2, e3⟩ := ih (acc ++ [a]) (by
          rw [List.map_append, List.nodup_append]
          refine ⟨h1, by simp, fun x hx y hy => ?_⟩
          simp at hy
          subst hy
          exact fun z => ha (z ▸ hx)) (by rw [List.append_assoc]; exact h2)
        exact ⟨pre, p, post, by rw [← e1]; simp, e2, e3⟩
  obtain ⟨pre, p, post, e1, e2, e3⟩ := split ps [] (by simp) (by simpa using nd)
  rw [List.nil_append] at e1
  subst e1
  exact bad_two h e2 e3 (by simp at hl; omega)
end Y


namespace Y
open PySem PySem.Spec L2 PyProof.Rows
theorem ni10_bl (b : Bool) : F_is_integer [.pu (.bl b)] = some (.ok (.pu (.bl false)), [.pu (.bl b)]) := by simp [F_is_integer, b_is_integer, bIsi, tgOf, isiG, isiT, bnames]
theorem ni10_non : F_is_integer [.pu .non] = some (.ok (.pu (.bl false)), [.pu .non]) := by simp [F_is_integer, b_is_integer, bIsi, tgOf, isiG, isiT, bnames]
theorem ni10_str (s : Str) : F_is_integer [.pu (.str s)] = some (.ok (.pu (.bl false)), [.pu (.str s)]) := by simp [F_is_integer, b_is_integer, bIsi, tgOf, isiG, isiT, bnames]
theorem ni10_am (q : Rat) : F_is_integer [.pu (am q)] = some (.ok (.pu (.bl false)), [.pu (am q)]) := by simp [F_is_integer, b_is_integer, isi_ai]
theorem np_z (w z : Int) (h : ¬ (0 ≤ w ∧ 1 ≤ z)) : NPr (.tup [.int w, .int z]) := by
  by_cases h0 : 0 ≤ w
  · have h1 : ¬ 1 ≤ z := fun k => h ⟨h0, k⟩
    simp [NPr, F_is_pair, b_is_pair, h0, h1]
  · simp [NPr, F_is_pair, b_is_pair, h0]
theorem np_1 {x y : PV} (h : F_is_integer [.pu x] = some (.ok (.pu (.bl false)), [.pu x])) : NPr (.tup [x, y]) := by
  simp [NPr, F_is_pair, b_is_pair, h]
theorem np_2 {w : Int} {y : PV} (h : F_is_integer [.pu y] = some (.ok (.pu (.bl false)), [.pu y])) : NPr (.tup [.int w, y]) := by
  simp [NPr, F_is_pair, b_is_pair, h]
theorem np_l (xs : List PV) : NPr (.lst xs) := by simp [NPr, F_is_pair, b_is_pair, bIsi, tgOf, isiG, isiT, bnames]
theorem np_i (i : Int) : NPr (.int i) := by simp [NPr, F_is_pair, b_is_pair, bIsi, tgOf, isiG, isiT, bnames]
theorem np_n : NPr .non := by simp [NPr, F_is_pair, b_is_pair, bIsi, tgOf, isiG, isiT, bnames]
theorem np_s (s : Str) : NPr (.str s) := by simp [NPr, F_is_pair, b_is_pair, bIsi, tgOf, isiG, isiT, bnames]
theorem np_t0 : NPr (.tup []) := by simp [NPr, F_is_pair, b_is_pair]
theorem np_t1 (x : PV) : NPr (.tup [x]) := by simp [NPr, F_is_pair, b_is_pair]
theorem np_t3 (x y z : PV) : NPr (.tup [x, y, z]) := by simp [NPr, F_is_pair, b_is_pair]
def th10 (w z v u : Int) (x1 x2 x3 : Str) : List PV := [.tup [.int w, .int 0], .tup [.int w, .int (-z)], .tup [.int (-1 - w), .int z], .tup [.int w, .bl true], .tup [.bl true, .int z], .tup [.bl false, .int z],
  .tup [.int w, .non], .tup [.non, .int z], .tup [.str x1, .int z], .tup [.int w, .str x2], .lst [.int w, .int z],
  .int w, .non, .str x3, .tup [.int w], .tup [.int w, .int z, .int z], .tup [], .tup [.int v, .int z], .tup [.int v, .int u],
  .tup [am (w : Rat), .int z], .tup [.int w, am (z : Rat)], .tup [.int w, am ((z : Rat) / (2 : Int))], .tup [am (((1 : Int) : Rat) / (2 : Int)), .int z]]
/-- all but two are no pairs -/
theorem th_np {w z v u : Int} {x1 x2 x3 : Str} (hz : 1 ≤ z) (hw : 0 ≤ w) {x : PV} (h : x ∈ th10 w z v u x1 x2 x3) : NPr x ∨ x = .tup [.int v, .int z] ∨ x = .tup [.int v, .int u] := by
  simp only [th10, List.mem_cons, List.not_mem_nil, or_false] at h
  rcases h with rfl | rfl | rfl | rfl | rfl | rfl | rfl | rfl | rfl | rfl | rfl | rfl | rfl | rfl | rfl | rfl | rfl | rfl | rfl | rfl | rfl | rfl | rfl
  · exact .inl (np_z _ _ (by omega))
  · exact .inl (np_z _ _ (by omega))
  · exact .inl (np_z _ _ (by omega))
  · exact .inl (np_2 (ni10_bl _))
  · exact .inl (np_1 (ni10_bl _))
  · exact .inl (np_1 (ni10_bl _))
  · exact .inl (np_2 ni10_non)
  · exact .inl (np_1 ni10_non)
  · exact .inl (np_1 (ni10_str _))
  · exact .inl (np_2 (ni10_str _))
  · exact .inl (np_l _)
  · exact .inl (np_i _)
  · exact .inl np_n
  · exact .inl (np_s _)
  · exact .inl (np_t1 _)
  · exact .inl (np_t3 _ _ _)
  · exact .inl np_t0
  · exact .inr (.inl rfl)
  · exact .inr (.inr rfl)
  · exact .inl (np_1 (ni10_am _))
  · exact .inl (np_2 (ni10_am _))
  · exact .inl (np_2 (ni10_am _))
  · exact .inl (np_1 (ni10_am _))
noncomputable abbrev tA10 : Cid → Option Fn := foL [(.Amount, F_Amount_eq)]
theorem eqO_d {x : PV} {d : PyData} (h1 : dat x = some d) (h2 : okD d = true) (h3 : PyData.eqv d d = true) : eqO tA10 x x = some true := by
  unfold eqO
  rw [h1]
  simp [h2, h3]
theorem eqT_d {x : PV} {d : PyData} (h1 : dat x = some d) (h2 : okD d = true) (h3 : PyData.eqv d d = true) : eqT tA10 x x = some true := by
  unfold eqT
  rw [eqO_d h1 h2 h3]
theorem eqO_am10 {q : Rat} {k : Nat} (hq : Rq q k) (hk : k ≤ 1400) : eqO tA10 (am q) (am q) = some true := by
  have h := eq_aa q q
  rw [decide_eq_true rfl] at h
  unfold am at h ⊢
  exact eqO_same rfl (by unfold pureG pgS; rw [List.map_cons, List.map_cons, List.map_nil, h])
theorem eqO_i10 (i : Int) : eqO tA10 (.int i) (.int i) = some true := eqO_d rfl rfl (by simp [PyData.eqv])
theorem okD_str {s : Str} {n : Nat} (h : SOk s n) : okD (.str s) = true := by
  have := h.1
  simp [okD, SeqAt.shaped, PyData.canLay0, PyData.depth, this]
theorem th_eq {w z v u : Int} {x1 x2 x3 : Str} {n : Nat} (h1 : SOk x1 n) (h2 : SOk x2 n) (h3 : SOk x3 n) (bw : Bn w 30) (bz : Bn z 30) {x : PV} (h : x ∈ th10 w z v u x1 x2 x3) : eqT tA10 x x = some true := by
  have k1 := okD_str h1
  have k2 := okD_str h2
  have k3 := okD_str h3
  simp only [th10, List.mem_cons, List.not_mem_nil, or_false] at h
  have ta : ∀ {p q : PV}, eqO tA10 p p = some true → eqO tA10 q q = some true → eqO tA10 (.tup [p, q]) (.tup [p, q]) = none → eqT tA10 (.tup [p, q]) (.tup [p, q]) = some true := fun {p q} a b c => eqT_tup (fun y hy => by
    simp at hy
    rcases hy with rfl | rfl
    · exact a
    · exact b) c
  rcases h with rfl | rfl | rfl | rfl | rfl | rfl | rfl | rfl | rfl | rfl | rfl | rfl | rfl | rfl | rfl | rfl | rfl | rfl | rfl | rfl | rfl | rfl | rfl
  · exact eqT_d rfl rfl (by simp [PyData.eqv, PyData.eqvAll])
  · exact eqT_d rfl rfl (by simp [PyData.eqv, PyData.eqvAll])
  · exact eqT_d rfl rfl (by simp [PyData.eqv, PyData.eqvAll])
  · exact eqT_d rfl rfl (by simp [PyData.eqv, PyData.eqvAll])
  · exact eqT_d rfl rfl (by simp [PyData.eqv, PyData.eqvAll])
  · exact eqT_d rfl rfl (by simp [PyData.eqv, PyData.eqvAll])
  · exact eqT_d rfl rfl (by simp [PyData.eqv, PyData.eqvAll])
  · exact eqT_d rfl rfl (by simp [PyData.eqv, PyData.eqvAll])
  · exact eqT_d rfl (by
      have a1 := h1.1
      have a2 := h2.1
      simp [okD, SeqAt.shaped, PyData.canLay0, PyData.canLayAll0, PyData.depth, PyData.depthAll, a1, a2]) (by simp [PyData.eqv, PyData.eqvAll])
  · exact eqT_d rfl (by
      have a1 := h1.1
      have a2 := h2.1
      simp [okD, SeqAt.shaped, PyData.canLay0, PyData.canLayAll0, PyData.depth, PyData.depthAll, a1, a2]) (by simp [PyData.eqv, PyData.eqvAll])
  · exact eqT_d rfl rfl (by simp [PyData.eqv, PyData.eqvAll])
  · exact eqT_d rfl rfl (by simp [PyData.eqv, PyData.eqvAll])
  · exact eqT_d rfl rfl (by simp [PyData.eqv, PyData.eqvAll])
  · exact eqT_d rfl k3 (by simp [PyData.eqv, PyData.eqvAll])
  · exact eqT_d rfl rfl (by simp [PyData.eqv, PyData.eqvAll])
  · exact eqT_d rfl rfl (by simp [PyData.eqv, PyData.eqvAll])
  · exact eqT_d rfl rfl (by simp [PyData.eqv, PyData.eqvAll])
  · exact eqT_d rfl rfl (by simp [PyData.eqv, PyData.eqvAll])
  · exact eqT_d rfl rfl (by simp [PyData.eqv, PyData.eqvAll])
  · exact ta (eqO_am10 (k := 31) rq_int (by omega)) (eqO_i10 _) rfl
  · exact ta (eqO_i10 _) (eqO_am10 (k := 31) rq_int (by omega)) rfl
  · exact ta (eqO_i10 _) (eqO_am10 (k := 200) ((rq_divd (p := (z : Rat)) (q := ((2 : Int) : Rat)) (i := 31) (j := 65)).le (by omega)) (by omega)) rfl
  · exact ta (eqO_am10 (k := 200) ((rq_divd (p := ((1 : Int) : Rat)) (q := ((2 : Int) : Rat)) (i := 65) (j := 65)).le (by omega)) (by omega)) (eqO_i10 _) rfl
theorem amounts10 (w z : Int) : F_l_amounts_k10 [.pu (.int w), .pu (.int z)] = some (.ok (.ow (.lst [.tup [am (w : Rat), .int z], .tup [.int w, am (z : Rat)], .tup [.int w, am ((z : Rat) / (2 : Int))], .tup [am (((1 : Int) : Rat) / (2 : Int)), .int z]])), [.pu (.int w), .pu (.int z)]) := by
  have e1 := init_i w
  have e2 := init_i z
  have e3 := init_c (t := z) (b := 2) (by omega) (by omega)
  have e4 := init_c (t := 1) (b := 2) (by omega) (by omega)
  simp only [F_l_amounts_k10, b_l_amounts_k10]
  generalize am (w : Rat) = A at *
  generalize am (z : Rat) = B at *
  generalize am ((z : Rat) / ((2 : Int) : Rat)) = C at *
  generalize am (((1 : Int) : Rat) / ((2 : Int) : Rat)) = D at *
  simp [e1, e2, e3, e4]
theorem things10 {ps : List (Int × Int)} {k : Int} {p q : Int × Int} (hp : L2.atI (ps.map encW) k = some (encW p)) (hq : L2.atI (ps.map encW) (k - 1) = some (encW q)) (b1 : Bn p.1 30) (b2 : Bn p.2 30) :
    F_l_things_k10 [.pu (.lst (ps.map encW)), .pu (.int k)] = some (.ok (.ow (.lst (th10 p.1 p.2 q.1 q.2 (tI p.1) (tI p.2) (tI p.1 ++ ":1")))), [.pu (.lst (ps.map encW)), .pu (.int k)]) := by
  have s1 := bStr_i p.1 (k := 30) (by omega)
  have s2 := bStr_i p.2 (k := 30) (by omega)
  have am10 := amounts10 p.1 p.2
  have s3 := oAddS_s (sok_tI p.1 (k := 30) (by omega)) (sok_s ":1" (n := 2) (by decide)) (by omega)
  rw [encW_ap] at hp hq
  unfold th10
  generalize ps.map encW = PS at *
  generalize p.1 = w at *
  generalize p.2 = z at *
  generalize q.1 = v at *
  generalize q.2 = u at *
  generalize am (w : Rat) = A at *
  generalize am (z : Rat) = B at *
  generalize am ((z : Rat) / ((2 : Int) : Rat)) = C at *
  generalize am (((1 : Int) : Rat) / ((2 : Int) : Rat)) = D at *
  simp [F_l_things_k10, b_l_things_k10, hp, hq, s1, s2, s3, am10]
end Y


namespace Y
open PySem PySem.Spec L2 PyProof.Rows
/-- one offer more ahead -/
def hiI (t b x : Int) : Int := if t < x * b then x * b else t
def dstep (r : List (Int × Int)) (s : Int × Int) : Int × Int := (isum (hiI s.1 s.2) r, tot r * s.2)
def vl (s : Int × Int) : Rat := ((s.1 : Int) : Rat) / ((s.2 : Int) : Rat)
structure Bd (n : Nat) (s : Int × Int) : Prop where
  t0 : 0 ≤ s.1
  b1 : 1 ≤ s.2
  bb : s.2 ≤ 2 ^ (24 * n)
  tb : s.1 ≤ 1000 * s.2
section
variable {r : List (Int × Int)} {s : Int × Int} {n : Nat}
theorem Bd.bn (h : Bd n s) : Bn s.1 (24 * n + 11) ∧ Bn s.2 (24 * n + 1) := by
  have b1 := h.b1
  have t0 := h.t0
  have bb := h.bb
  have tb := h.tb
  have e : (2 : Int) ^ (24 * n + 11) = 2048 * 2 ^ (24 * n) := by rw [Int.pow_add]; omega
  have e2 : (2 : Int) ^ (24 * n + 1) = 2 * 2 ^ (24 * n) := by rw [Int.pow_add]; omega
  have p : (0 : Int) < 2 ^ (24 * n) := Int.pow_pos (by decide)
  refine ⟨⟨?_⟩, ⟨?_⟩⟩
  · have : (s.1.natAbs : Int) < 2 ^ (24 * n + 11) := by omega
    exact_mod_cast this
  · have : (s.2.natAbs : Int) < 2 ^ (24 * n + 1) := by omega
    exact_mod_cast this
end
/-- the best value of rows, as top and bottom -/
def due (L : List (List (Int × Int))) : Int × Int := L.reverse.foldl (fun s r => dstep r s) (0, 1)
def fnd : List (List (Int × Int)) → Int × Int → List Rat
  | [], s => [vl s]
  | r :: L, s => vl s :: fnd L (dstep r s)
theorem cutP_drop {α : Type} (f : α → PV) (xs : List α) (k : Nat) : cutP (xs.map f) (some (k : Int)) none = (xs.drop k).map f := by
  unfold cutP
  rw [HT.sIx_none, HT.sIx_nat, List.length_map, ← List.map_drop]
  by_cases h : k < xs.length
  · rw [Nat.min_eq_left (by omega), List.take_of_length_le (by simp)]
  · rw [Nat.min_eq_right (by omega), List.take_of_length_le (by simp), List.drop_eq_nil_of_le (by omega : xs.length ≤ k), List.drop_eq_nil_of_le (Nat.le_refl _)]
end Y


namespace Y
open PySem PySem.Spec L2 PyProof.Rows
theorem cut10 (xs : List PV) (k : Nat) : cutP xs none (some (k : Int)) = xs.take k := by
  have := cutP_take (fun x : PV => x) xs k
  rw [List.map_id', List.map_id'] at this
  exact this
theorem cut10d (xs : List PV) (k : Nat) : cutP xs (some (k : Int)) none = xs.drop k := by
  have := cutP_drop (fun x : PV => x) xs k
  rw [List.map_id', List.map_id'] at this
  exact this
structure G10 (i : Nat) (W : Int) (ps : List (Int × Int)) : Prop where
  len : ps.length = i
  nd : (ps.map (·.1)).Nodup
  rng : ∀ p ∈ ps, 1 ≤ p.1 ∧ p.1 ≤ W ∧ 1 ≤ p.2 ∧ p.2 ≤ 1000
  W0 : 0 ≤ W
  W1 : W ≤ 151 * i
theorem turn10 {i : Nat} {W : Int} {ps : List (Int × Int)} (g : G10 i W ps) (hi : i < 8) (j k : Int) : ∃ (W' : Int) (ps' : List (Int × Int)) (j' : Int), G10 (i + 1) W' ps' ∧
    fT (gN 3) w_l_good_k10_1 [3] (.int k) [.io (.lst [.int j]), .ow (.lst (ps.map encW)), .pu (.int W), .un] = some (.nx, [.io (.lst [.int j']), .ow (.lst (ps'.map encW)), .pu (.int W'), .un]) := by
  obtain ⟨a, j1, a0, a1, e1⟩ := pick j (m := 2) (by omega) (by omega)
  have hw : ∃ w : Int, (w = 1 ∨ w = 150) ∧ L2.atI [PV.int 1, PV.int 150] a = some (.int w) := by
    obtain ⟨y, h1, h2⟩ := atI_mem [PV.int 1, PV.int 150] a0 (by simpa using a1)
    simp at h2
    rcases h2 with h2 | h2 <;> subst h2
    · exact ⟨1, .inl rfl, h1⟩
    · exact ⟨150, .inr rfl, h1⟩
  obtain ⟨w, hw, ew⟩ := hw
  obtain ⟨b, j2, b0, b1, e2⟩ := pick j1 (m := w) (by omega) (by omega)
  have hl := g.len
  obtain ⟨c, j3, c0, c1, e3⟩ := pick j2 (m := (i : Int) + 1) (by omega) (by omega)
  obtain ⟨d, j4, d0, d1, e4⟩ := pick j3 (m := 1000) (by omega) (by omega)
  have W0 := g.W0
  have W1 := g.W1
  refine ⟨W + 1 + b, ps.take c.toNat ++ [(W + 1 + b, 1 + d)] ++ ps.drop c.toNat, j4, ⟨?_, ?_, fun p hp => ?_, by omega, by push_cast; omega⟩, ?_⟩
  · have hc : c.toNat ≤ ps.length := by omega
    simp
    omega
  · have hp : (ps.take c.toNat ++ [(W + 1 + b, 1 + d)] ++ ps.drop c.toNat).Perm ((W + 1 + b, 1 + d) :: ps) := by
      have h1 : (ps.take c.toNat ++ [(W + 1 + b, 1 + d)] ++ ps.drop c.toNat).Perm ((W + 1 + b, 1 + d) :: (ps.take c.toNat ++ ps.drop c.toNat)) := by
        rw [List.append_assoc]
        exact List.perm_middle
      rw [List.take_append_drop] at h1
      exact h1
    refine (hp.map (·.1)).nodup_iff.mpr ?_
    rw [List.map_cons, List.nodup_cons]
    refine ⟨fun z => ?_, g.nd⟩
    obtain ⟨q, hq, eq⟩ := List.mem_map.mp z
    have := (g.rng q hq).2.1
    have eq : q.1 = W + 1 + b := eq
    omega
  · rw [List.mem_append, List.mem_append, List.mem_singleton] at hp
    rcases hp with (hp | rfl) | hp
    · have := g.rng p (List.mem_of_mem_take hp)
      omega
    · dsimp only; omega
    · have := g.rng p (List.mem_of_mem_drop hp)
      omega
  · have el : (ps.map encW).length = i := by simpa using hl
    have em : (ps.take c.toNat ++ [(W + 1 + b, 1 + d)] ++ ps.drop c.toNat).map encW = (ps.map encW).take c.toNat ++ [.tup [.int (W + 1 + b), .int (1 + d)]] ++ (ps.map encW).drop c.toNat := by simp [encW_ap, List.map_take, List.map_drop]
    rw [em, fT_ap]
    generalize ps.map encW = PS at *
    have c2 : (PS.length : Int) + 1 = (i : Int) + 1 := by omega
    have c3 : PS.length < 16777216 := by omega
    have c4 : c < 1000000000 := by omega
    simp [w_l_good_k10_1, e1, ew, e2, c2, e3, e4, c3, c4, c0, wipeR, wipe1]
theorem good10 (j : Int) : ∃ (ps : List (Int × Int)) (j' : Int), 2 ≤ ps.length ∧ ps.length ≤ 6 ∧ (ps.map (·.1)).Nodup ∧ (∀ p ∈ ps, 0 ≤ p.1 ∧ p.1 ≤ 2000 ∧ 1 ≤ p.2 ∧ p.2 ≤ 1000) ∧
    F_l_good_k10 [.io (.lst [.int j])] = some (.ok (.ow (.lst (ps.map encW))), [.io (.lst [.int j'])]) := by
  obtain ⟨a, j1, a0, a1, e1⟩ := pick j (m := 5) (by omega) (by omega)
  obtain ⟨m, rfl⟩ : ∃ m : Nat, a = (m : Int) := ⟨a.toNat, by omega⟩
  have lp : ∀ n : Nat, n ≤ 6 → ∃ (W : Int) (ps : List (Int × Int)) (j' : Int), G10 n W ps ∧ forL (gN 3) w_l_good_k10_1 [3] (rngP 0 n) [.io (.lst [.int j1]), .ow (.lst []), .pu (.int 0), .un] = some (.nx, [.io (.lst [.int j']), .ow (.lst (ps.map encW)), .pu (.int W), .un]) := by
    intro n hn
    rw [rng_ints]
    obtain ⟨g', h1, h2⟩ := for_inv (gm := gN 3) (b := w_l_good_k10_1) (fg := [3]) (enc := PV.int) (R := fun g : Int × List (Int × Int) × Int => [.io (.lst [.int g.2.2]), .ow (.lst (g.2.1.map encW)), .pu (.int g.1), .un]) (fun i g => G10 i g.1 g.2.1) ((List.range n).map fun i : Nat => (0 : Int) + (i : Int)) (0, [], j1) ⟨rfl, by simp, by simp, by omega, by omega⟩ (fun i x g hx hg => by
      have hi : i < n := by
        have := (List.getElem?_eq_some_iff.mp hx).1
        simpa using this
      obtain ⟨W', ps', j', h1, h2⟩ := turn10 hg (by omega) g.2.2 x
      exact ⟨(W', ps', j'), h2, h1⟩)
    obtain ⟨W, ps, j'⟩ := g'
    have : ((List.range n).map fun i : Nat => (0 : Int) + (i : Int)).length = n := by simp
    rw [this] at h2
    exact ⟨W, ps, j', h2, h1⟩
  obtain ⟨W, ps, j2, g, e2⟩ := lp (m + 2) (by omega)
  obtain ⟨b, j3, b0, b1, e3⟩ := pick j2 (m := 3) (by omega) (by omega)
  have n1 : RngB (2 + (m : Int)) := RngB.of (by omega) (by omega)
  have n2 : (2 + (m : Int)).toNat = m + 2 := by omega
  have hl := g.len
  have W1 := g.W1
  have rg : ∀ p ∈ ps, 0 ≤ p.1 ∧ p.1 ≤ 2000 ∧ 1 ≤ p.2 ∧ p.2 ≤ 1000 := fun p hp => by
    have := g.rng p hp
    push_cast at W1
    omega
  by_cases hb : b = 0
  · refine ⟨(ps ++ [(0, 1)]).take 6, j3, by simp; omega, by simp; omega, ?_, fun p hp => ?_, ?_⟩
    · rw [List.map_take]
      refine List.Sublist.nodup (List.take_sublist _ _) ?_
      rw [List.map_append, List.nodup_append]
      refine ⟨g.nd, by simp, fun x hx y hy => ?_⟩
      simp at hy
      subst hy
      obtain ⟨q, hq, rfl⟩ := List.mem_map.mp hx
      have := (g.rng q hq).1
      omega
    · have hp := List.mem_of_mem_take hp
      rw [List.mem_append, List.mem_singleton] at hp
      rcases hp with hp | rfl
      · exact rg p hp
      · dsimp only; omega
    · have em : ((ps ++ [(0, 1)]).take 6).map encW = (ps.map encW ++ [PV.tup [.int 0, .int 1]]).take 6 := by simp [List.map_take, encW_ap]
      have el : (ps.map encW).length = m + 2 := by simpa using hl
      rw [em]
      generalize ps.map encW = PS at *
      have c3 : PS.length < 16777216 := by omega
      have ct : cutP (PS ++ [PV.tup [PV.int 0, PV.int 1]]) none (some 6) = (PS ++ [PV.tup [PV.int 0, PV.int 1]]).take 6 := cut10 _ 6
      simp [F_l_good_k10, b_l_good_k10, e1, n1, n2, e2, e3, hb, c3, ct, wipeR, wipe1]
  · refine ⟨ps.take 6, j3, by simp; omega, by simp; omega, ?_, fun p hp => rg p (List.mem_of_mem_take hp), ?_⟩
    · rw [List.map_take]
      exact List.Sublist.nodup (List.take_sublist _ _) g.nd
    · have em : (ps.take 6).map encW = (ps.map encW).take 6 := by simp [List.map_take]
      rw [em]
      generalize ps.map encW = PS at *
      have ct : cutP PS none (some 6) = PS.take 6 := cut10 _ 6
      simp [F_l_good_k10, b_l_good_k10, e1, n1, n2, e2, e3, hb, ct, wipeR, wipe1]

theorem told10 : F_l_told_k10 = F_l_told_08 := rfl
theorem least10 : F_l_least_10 = F_l_least_08 := rfl
/-- one thing in the place of a pair -/
theorem turn10b {ps : List (Int × Int)} (hl : ps.length ≤ 6) {c0 c2 : Sl} (m : Nat) (hm : m < ps.length) {x : PV} (hx : eqT tA10 x x = some true) (hb : Bad10 (.lst ((ps.take m).map encW ++ x :: (ps.drop (m + 1)).map encW))) :
    fT (gN 4) w_l_case_k10_1 [4, 5, 6] x [c0, .pu (.lst (ps.map encW)), c2, .pu (.int (m : Int)), .un, .un, .un, .un] = some (.nx, [c0, .pu (.lst (ps.map encW)), c2, .pu (.int (m : Int)), .un, .un, .un, .un]) := by
  have ct : cutP (ps.map encW) none (some (m : Int)) = (ps.take m).map encW := by rw [cut10, List.map_take]
  have cd : cutP (ps.map encW) (some ((m : Int) + 1)) none = (ps.drop (m + 1)).map encW := by
    have := cut10d (ps.map encW) (m + 1)
    push_cast at this
    rw [this, List.map_drop]
  have l1 : ((ps.take m).map encW).length ≤ 6 := by simp; omega
  have l2 : ((ps.drop (m + 1)).map encW).length ≤ 6 := by simp; omega
  have hr := ref10 hb
  have en : oNeL2 (foL [(.Amount, F_Amount_eq)]) (.lst ((ps.take m).map encW ++ x :: (ps.drop (m + 1)).map encW)) (.lst ((ps.take m).map encW ++ x :: (ps.drop (m + 1)).map encW)) = some (.bl false) := oNeL2_same fun y hy => by
    rw [List.mem_append, List.mem_cons] at hy
    have dd : ∀ p : Int × Int, eqT tA10 (encW p) (encW p) = some true := fun p => by
      rw [encW_ap]
      exact eqT_d rfl rfl (by simp [PyData.eqv, PyData.eqvAll])
    rcases hy with hy | rfl | hy
    · obtain ⟨p, _, rfl⟩ := List.mem_map.mp hy
      exact dd p
    · exact hx
    · obtain ⟨p, _, rfl⟩ := List.mem_map.mp hy
      exact dd p
  rw [fT_ap]
  generalize (ps.take m).map encW = A at *
  generalize (ps.drop (m + 1)).map encW = B at *
  generalize ps.map encW = PS at *
  have g1 : A.length + 1 ≤ 16777216 := by omega
  have g2 : A.length + 1 + B.length ≤ 16777216 := by omega
  have g3 : A.length + (B.length + 1) ≤ 16777216 := by omega
  simp [w_l_case_k10_1, ct, cd, g1, g2, g3, hr, en, wipeR, wipe1]

/-- an alien -/
theorem alien10 {c0 c1 c2 c3 : Sl} {x : PV} (hb : Bad10 x) : fT (gN 7) w_l_case_k10_2 [7] x [c0, c1, c2, c3, .un, .un, .un, .un] = some (.nx, [c0, c1, c2, c3, .un, .un, .un, .un]) := by
  have hr := ref10 hb
  rw [fT_ap]
  simp [w_l_case_k10_2, hr, wipeR, wipe1]
theorem case10 (j : Int) : ∃ j' : Int, F_l_case_k10 [.io (.lst [.int j])] = some (.ok (.pu (.bl true)), [.io (.lst [.int j'])]) := by
  obtain ⟨ps, j1, l2, l6, nd, rg, e1⟩ := good10 j
  have ne : ps ≠ [] := fun z => by rw [z] at l2; simp at l2
  have gp : GP 10 ps := ⟨ne, nd, fun p hp => (rg p hp).1, fun p hp => (rg p hp).2.2.1, by omega, fun p hp => by have := rg p hp; omega⟩
  have gs : GPs ps := fun p hp => ⟨(rg p hp).1, (rg p hp).2.2.1⟩
  have gl := q_lleast gp (by omega)
  rw [← least10] at gl
  have gi := init_urn gp (by omega)
  rw [← initv10] at gi
  have gt := q_told gp.least
  rw [← told10] at gt
  obtain ⟨s, j2, s0, s1, e2⟩ := pick j1 (m := (ps.length : Int)) (by omega) (by omega)
  obtain ⟨m, rfl⟩ : ∃ m : Nat, s = (m : Int) := ⟨s.toNat, by omega⟩
  have hm : m < ps.length := by omega
  have at_ : ∀ (i : Nat) (h : i < ps.length), L2.atI (ps.map encW) (i : Int) = some (encW ps[i]) := fun i h => by
    rw [atI_n _ i (by simpa using h)]
    simp
  -- the pair ahead, in a ring
  have before : ∃ (o : Nat) (ho : o < ps.length), o ≠ m ∧ L2.atI (ps.map encW) ((m : Int) - 1) = some (encW ps[o]) := by
    by_cases z : m = 0
    · subst z
      refine ⟨ps.length - 1, by omega, by omega, ?_⟩
      have : L2.atI (ps.map encW) (((0 : Nat) : Int) - 1) = some (encW ps[ps.length - 1]) := by
        unfold L2.atI L2.ixN
        have hn : (ps.map encW).length = ps.length := by simp
        rw [if_neg (by omega), if_pos (by omega), hn]
        have : ((((0 : Nat) : Int) - 1) + (ps.length : Int)).toNat = ps.length - 1 := by omega
        rw [this, Option.bind_some, List.getElem?_map, List.getElem?_eq_getElem (by omega)]
        rfl
      exact this
    · refine ⟨m - 1, by omega, by omega, ?_⟩
      have := at_ (m - 1) (by omega)
      rw [show ((m - 1 : Nat) : Int) = (m : Int) - 1 from by omega] at this
      exact this
  obtain ⟨o, ho, om, ao⟩ := before
  have am_ := at_ m hm
  have a0_ := at_ 0 (by omega)
  generalize hp : ps[m] = p at *
  generalize hq : ps[o] = q at *
  generalize hr : ps[0] = r0 at *
  have pm : p ∈ ps := hp ▸ List.getElem_mem _
  have qm : q ∈ ps := hq ▸ List.getElem_mem _
  have rm : r0 ∈ ps := hr ▸ List.getElem_mem _
  have bp := rg p pm
  have bq := rg q qm
  have b1 : Bn p.1 30 := bn30 (by omega) (by omega)
  have b2 : Bn p.2 30 := bn30 (by omega) (by omega)
  have th := things10 am_ ao b1 b2
  have so1 := (sok_tI p.1 (k := 30) (by omega))
  have so2 := (sok_tI p.2 (k := 30) (by omega))
  have so3 : SOk (tI p.1 ++ Str.ofString ":1") 33 := so1.app (sok_s ":1" (n := 2) (by decide))
  have so1' : SOk (tI p.1) 33 := ⟨so1.1, Nat.le_trans so1.2 (by omega)⟩
  have so2' : SOk (tI p.2) 33 := ⟨so2.1, Nat.le_trans so2.2 (by omega)⟩
  have gpre : GPs (ps.take m) := fun z hz => gs z (List.mem_of_mem_take hz)
  -- a worth that stands there
  have dup : ∀ v : Int, 1 ≤ v → Bad10 (.lst ((ps.take m).map encW ++ .tup [.int q.1, .int v] :: (ps.drop (m + 1)).map encW)) := fun v hv => by
    have : (ps.take m).map encW ++ PV.tup [.int q.1, .int v] :: (ps.drop (m + 1)).map encW = (ps.take m ++ (q.1, v) :: ps.drop (m + 1)).map encW := by simp [encW_ap]
    rw [this]
    refine bad_dup (fun z hz => ?_) (fun nd2 => ?_) (by simp; omega)
    · rw [List.mem_append, List.mem_cons] at hz
      rcases hz with hz | rfl | hz
      · exact gs z (List.mem_of_mem_take hz)
      · exact ⟨bq.1, hv⟩
      · exact gs z (List.mem_of_mem_drop hz)
    · rw [List.map_append, List.map_cons, List.nodup_append, List.nodup_cons] at nd2
      obtain ⟨n1, ⟨n2, n3⟩, n4⟩ := nd2
      by_cases lt : o < m
      · refine n4 q.1 (List.mem_map.mpr ⟨q, ?_, rfl⟩) q.1 (List.mem_cons_self ..) rfl
        rw [← hq]
        exact List.mem_take_iff_getElem.mpr ⟨o, by omega, rfl⟩
      · refine n2 (List.mem_map.mpr ⟨q, ?_, rfl⟩)
        rw [← hq]
        refine List.mem_drop_iff_getElem.mpr ⟨o - (m + 1), by omega, ?_⟩
        have : m + 1 + (o - (m + 1)) = o := by omega
        simp only [this]
  have lp : ∀ c0 c2 : Sl, forL (gN 4) w_l_case_k10_1 [4, 5, 6] (th10 p.1 p.2 q.1 q.2 (tI p.1) (tI p.2) (tI p.1 ++ Str.ofString ":1")) [c0, .pu (.lst (ps.map encW)), c2, .pu (.int (m : Int)), .un, .un, .un, .un] = some (.nx, [c0, .pu (.lst (ps.map encW)), c2, .pu (.int (m : Int)), .un, .un, .un, .un]) := fun c0 c2 => by
    have := for_all (gm := gN 4) (b := w_l_case_k10_1) (fg := [4, 5, 6]) (enc := fun x : PV => x) (ρ := [c0, .pu (.lst (ps.map encW)), c2, .pu (.int (m : Int)), .un, .un, .un, .un]) (th10 p.1 p.2 q.1 q.2 (tI p.1) (tI p.2) (tI p.1 ++ Str.ofString ":1")) (fun x hx => ?_)
    · rw [List.map_id'] at this
      exact this
    refine turn10b l6 m hm (th_eq so1' so2' so3 b1 b2 hx) ?_
    rcases th_np bp.2.2.1 bp.1 hx with h | rfl | rfl
    · exact bad_mid gpre h _
    · exact dup p.2 bp.2.2.1
    · exact dup q.2 bq.2.2.1
  have one : GP 10 [p] := ⟨by simp, by simp, fun z hz => by simp at hz; subst hz; exact bp.1, fun z hz => by simp at hz; subst hz; exact bp.2.2.1, by simp, fun z hz => by simp at hz; subst hz; omega⟩
  have l1 : least [p] = [(p.1, 1)] := by
    have g1 : gcdW [p] = p.2 := by
      show (Int.gcd 0 p.2 : Int) = p.2
      rw [Int.gcd_zero_left]
      omega
    have hs : srt [p.1] = [p.1] := List.perm_singleton.mp (srt_perm _)
    unfold least
    rw [g1]
    simp only [List.map_cons, List.map_nil, hs]
    have : aget [p] p.1 = some p.2 := aget_mem (by simp) (List.mem_singleton.mpr rfl)
    rw [this]
    have hp2 : p.2 ≠ 0 := by omega
    simp [Int.fdiv_self hp2]
  have gi1 := init_urn one (by omega)
  have gt1 := q_told one.least
  rw [← initv10, l1] at gi1
  rw [← told10, l1] at gt1
  have app : Bad10 (.lst ((ps ++ [p]).map encW)) := bad_dup (fun z hz => by
    rw [List.mem_append, List.mem_singleton] at hz
    rcases hz with hz | rfl
    · exact gs z hz
    · exact gs z pm) (fun nd2 => by
    rw [List.map_append, List.nodup_append] at nd2
    exact nd2.2.2 p.1 (List.mem_map.mpr ⟨p, pm, rfl⟩) p.1 (by simp) rfl) (by simp; omega)
  have two : Bad10 (.lst ([p, p].map encW)) := bad_dup (fun z hz => by
    simp at hz
    subst hz
    exact gs z pm) (by simp) (by simp)
  have ra := ref10 app
  have rt := ref10 two
  have r2 := ref10 (bad_obj .Amount [.int (2 : Rat).num, .int ((2 : Rat).den : Int)] (.inr rfl))
  have u1 : GP 10 [(1, 1)] := ⟨by simp, by simp, fun z hz => by simp at hz; subst hz; decide, fun z hz => by simp at hz; subst hz; decide, by simp, fun z hz => by simp at hz; subst hz; decide⟩
  have gu := init_urn u1 (by omega)
  rw [← initv10] at gu
  have bu : Bad10 (urnP (least [(1, 1)])) := bad_obj .Urn _ (.inl rfl)
  have al : ∀ c0 c1 c2 c3 : Sl, forL (gN 7) w_l_case_k10_2 [7] [.lst [], .non, .bl true, .int 5, .str (Str.ofString ""), .str (Str.ofString "0:1"), .tup (ps.map encW), encW r0, .dct [.inl r0.1] [.int r0.2], urnP (least [(1, 1)])] [c0, c1, c2, c3, .un, .un, .un, .un] = some (.nx, [c0, c1, c2, c3, .un, .un, .un, .un]) := fun c0 c1 c2 c3 => by
    have := for_all (gm := gN 7) (b := w_l_case_k10_2) (fg := [7]) (enc := fun x : PV => x) (ρ := [c0, c1, c2, c3, .un, .un, .un, .un]) [.lst [], .non, .bl true, .int 5, .str (Str.ofString ""), .str (Str.ofString "0:1"), .tup (ps.map encW), encW r0, .dct [.inl r0.1] [.int r0.2], urnP (least [(1, 1)])] (fun x hx => ?_)
    · rw [List.map_id'] at this
      exact this
    refine alien10 ?_
    simp only [List.mem_cons, List.not_mem_nil, or_false] at hx
    rcases hx with rfl | rfl | rfl | rfl | rfl | rfl | rfl | rfl | rfl | rfl
    · exact bad_nil
    · exact bad_non
    · exact bad_bl _
    · exact bad_int _
    · exact bad_str _
    · exact bad_str _
    · exact bad_tup _
    · exact bad_tup _
    · exact bad_dct _ _
    · exact bu
  have ea : (ps ++ [p]).map encW = ps.map encW ++ [encW p] := by simp
  have et : [p, p].map encW = [encW p, encW p] := rfl
  have eo : [p].map encW = [encW p] := rfl
  have e11 : [((1 : Int), (1 : Int))].map encW = [.tup [.int 1, .int 1]] := rfl
  have eo1 : [(p.1, (1 : Int))].map encW = [.tup [.int p.1, .int 1]] := rfl
  rw [ea] at ra
  rw [et] at rt
  rw [eo] at gi1
  rw [e11] at gu
  rw [eo1] at gt1
  have el : (ps.map encW).length = ps.length := by simp
  refine ⟨j2, ?_⟩
  rw [encW_ap] at am_ a0_ ra rt gi1
  rw [encW_ap] at al
  have i2 := init_i 2
  generalize th10 p.1 p.2 q.1 q.2 (tI p.1) (tI p.2) (tI p.1 ++ Str.ofString ":1") = TH at *
  generalize urnP (least [(1, 1)]) = U1 at *
  generalize urnP [(p.1, 1)] = U2 at *
  generalize urnP (least ps) = U3 at *
  generalize (least ps).map encW = LS at *
  generalize ps.map encW = PS at *
  have c1 : ps.length ≤ 16777215 := by omega
  have r2' : F_l_refused_k10 [.pu (am ((2 : Int) : Rat))] = some (.ok (.pu (.bl true)), [.pu (am ((2 : Int) : Rat))]) := r2
  generalize am ((2 : Int) : Rat) = A2 at *
  have a0' : L2.atI PS 0 = some (PV.tup [.int r0.1, .int r0.2]) := a0_
  simp [F_l_case_k10, b_l_case_k10, e1, gl, gi, gt, e2, el, th, lp, a0', am_, gu, al, i2, r2', ra, rt, gi1, gt1, c1]
theorem tru_k10 (ns : List Int) (hl : ns.length ≤ 63) : Tru F_law_k10 ns := by
  refine tru_loop 8 (by omega) rfl ns fun k hk => ?_
  obtain ⟨j, e⟩ := q_jar ns k hk
  obtain ⟨j', e2⟩ := case10 j
  simp [w_law_k10_1, e, e2]
end Y

namespace Y
open PySem PySem.Spec L2 PyProof.Rows
theorem sc_l_pick_01 : FnScope (["_law_jar_here", "_law_many", "_law_found"] : List Str) (["_law_jar_here", "_law_many"] : List Str) (defScope s_l_pick_01) := ⟨rfl, rfl, rfl, by decide +kernel, rfl, by decide +kernel, by decide +kernel⟩
theorem sc_l_good_k10 : FnScope (["_law_jar_here", "_law_pairs", "_law_worth", "_law_turn"] : List Str) (["_law_jar_here"] : List Str) (defScope s_l_good_k10) := ⟨rfl, rfl, rfl, by decide +kernel, rfl, by decide +kernel, by decide +kernel⟩
theorem sc_l_gcd_01 : FnScope (["_law_one", "_law_other"] : List Str) (["_law_one", "_law_other"] : List Str) (defScope s_l_gcd_01) := ⟨rfl, rfl, rfl, by decide +kernel, rfl, by decide +kernel, by decide +kernel⟩
theorem sc_l_least_10 : FnScope (["_law_pairs", "_law_common", "_law_worth", "_law_weight", "_law_found", "_law_other"] : List Str) (["_law_pairs"] : List Str) (defScope s_l_least_10) := ⟨rfl, rfl, rfl, by decide +kernel, rfl, by decide +kernel, by decide +kernel⟩
theorem sc_Urn_pairs : FnScope (["self"] : List Str) (["self"] : List Str) (defScope s_Urn_pairs) := ⟨rfl, rfl, rfl, by decide +kernel, rfl, by decide +kernel, by decide +kernel⟩
theorem sc_Urn_iter : FnScope (["self"] : List Str) (["self"] : List Str) (defScope s_Urn_iter) := ⟨rfl, rfl, rfl, by decide +kernel, rfl, by decide +kernel, by decide +kernel⟩
theorem sc_l_whole : FnScope (["_law_found"] : List Str) (["_law_found"] : List Str) (defScope s_l_whole) := ⟨rfl, rfl, rfl, by decide +kernel, rfl, by decide +kernel, by decide +kernel⟩
theorem sc_l_told_k10 : FnScope (["_law_urn", "_law_pairs", "_law_found", "_law_k"] : List Str) (["_law_urn", "_law_pairs"] : List Str) (defScope s_l_told_k10) := ⟨rfl, rfl, rfl, by decide +kernel, rfl, by decide +kernel, by decide +kernel⟩
theorem sc_is_integer : FnScope (["value"] : List Str) (["value"] : List Str) (defScope s_is_integer) := ⟨rfl, rfl, rfl, by decide +kernel, rfl, by decide +kernel, by decide +kernel⟩
theorem sc_is_pair : FnScope (["value", "worth", "weight"] : List Str) (["value"] : List Str) (defScope s_is_pair) := ⟨rfl, rfl, rfl, by decide +kernel, rfl, by decide +kernel, by decide +kernel⟩
theorem sc_is_list_of_pairs_v1 : FnScope (["value", "pair"] : List Str) (["value"] : List Str) (defScope s_is_list_of_pairs_v1) := ⟨rfl, rfl, rfl, by decide +kernel, rfl, by decide +kernel, by decide +kernel⟩
theorem sc_common_divisor : FnScope (["one", "other"] : List Str) (["one", "other"] : List Str) (defScope s_common_divisor) := ⟨rfl, rfl, rfl, by decide +kernel, rfl, by decide +kernel, by decide +kernel⟩
theorem sc_reduced : FnScope (["weights", "common", "worth"] : List Str) (["weights"] : List Str) (defScope s_reduced) := ⟨rfl, rfl, rfl, by decide +kernel, rfl, by decide +kernel, by decide +kernel⟩
theorem sc_Urn_init_v1 : FnScope (["self", "pairs", "weights", "worth", "weight"] : List Str) (["self", "pairs"] : List Str) (defScope s_Urn_init_v1) := ⟨rfl, rfl, rfl, by decide +kernel, rfl, by decide +kernel, by decide +kernel⟩
theorem sc_Amount_init : FnScope (["self", "top", "bottom", "common"] : List Str) (["self", "top", "bottom"] : List Str) (defScope s_Amount_init) := ⟨rfl, rfl, rfl, by decide +kernel, rfl, by decide +kernel, by decide +kernel⟩
theorem sc_l_amounts_k10 : FnScope (["_law_worth", "_law_weight"] : List Str) (["_law_worth", "_law_weight"] : List Str) (defScope s_l_amounts_k10) := ⟨rfl, rfl, rfl, by decide +kernel, rfl, by decide +kernel, by decide +kernel⟩
theorem sc_l_things_k10 : FnScope (["_law_pairs", "_law_spot", "_law_worth", "_law_weight", "_law_other", "_law_things_here"] : List Str) (["_law_pairs", "_law_spot"] : List Str) (defScope s_l_things_k10) := ⟨rfl, rfl, rfl, by decide +kernel, rfl, by decide +kernel, by decide +kernel⟩
theorem sc_l_refused_k10 : FnScope (["_law_alien", "_law_found", "e"] : List Str) (["_law_alien"] : List Str) (defScope s_l_refused_k10) := ⟨rfl, rfl, rfl, by decide +kernel, rfl, by decide +kernel, by decide +kernel⟩
theorem sc_Amount_eq : FnScope (["self", "other"] : List Str) (["self", "other"] : List Str) (defScope s_Amount_eq) := ⟨rfl, rfl, rfl, by decide +kernel, rfl, by decide +kernel, by decide +kernel⟩
theorem sc_l_case_k10 : FnScope (["_law_jar_here", "_law_pairs", "_law_due", "_law_spot", "_law_thing", "_law_bad", "_law_kept", "_law_alien"] : List Str) (["_law_jar_here"] : List Str) (defScope s_l_case_k10) := ⟨rfl, rfl, rfl, by decide +kernel, rfl, by decide +kernel, by decide +kernel⟩
theorem sc_l_jar : FnScope (["_law_script", "_law_at", "_law_cell", "_law_part", "_law_rest", "_law_turn"] : List Str) (["_law_script", "_law_at"] : List Str) (defScope s_l_jar) := ⟨rfl, rfl, rfl, by decide +kernel, rfl, by decide +kernel, by decide +kernel⟩
theorem sc_law_k10 : FnScope (["_law_script", "_law_at"] : List Str) (["_law_script"] : List Str) (defScope s_law_k10) := ⟨rfl, rfl, rfl, by decide +kernel, rfl, by decide +kernel, by decide +kernel⟩
section
variable {P : Program} {w : World} {K : PySem.W.Frag} {h : Heap} {mg : Str → Option Value} {base : Heap} (X : K.In h) (G : h.Ns mainGlobals mg) (c : SaysY fb fn K)
include X G c
theorem g_l_pick : mg "_law_pick" = some (.ref (He.ga K "_law_pick")) := He.glo_ok X G (c.fact 12)
theorem g_l_good : mg "_law_good" = some (.ref (He.ga K "_law_good")) := He.glo_ok X G (c.fact 13)
theorem g_l_gcd : mg "_law_gcd" = some (.ref (He.ga K "_law_gcd")) := He.glo_ok X G (c.fact 14)
theorem g_l_least : mg "_law_least" = some (.ref (He.ga K "_law_least")) := He.glo_ok X G (c.fact 15)
theorem g_Urn : mg "Urn" = some (.ref (He.ga K "Urn")) := He.glo_ok X G (c.fact 16)
theorem g_l_whole : mg "_law_whole" = some (.ref (He.ga K "_law_whole")) := He.glo_ok X G (c.fact 17)
theorem g_is_integer : mg "is_integer" = some (.ref (He.ga K "is_integer")) := He.glo_ok X G (c.fact 18)
theorem g_is_pair : mg "is_pair" = some (.ref (He.ga K "is_pair")) := He.glo_ok X G (c.fact 19)
theorem g_is_list_of_pairs : mg "is_list_of_pairs" = some (.ref (He.ga K "is_list_of_pairs")) := He.glo_ok X G (c.fact 20)
theorem g_InvalidUrn : mg "InvalidUrn" = some (.ref (He.ga K "InvalidUrn")) := He.glo_ok X G (c.fact 21)
theorem g_common_divisor : mg "common_divisor" = some (.ref (He.ga K "common_divisor")) := He.glo_ok X G (c.fact 22)
theorem g_reduced : mg "reduced" = some (.ref (He.ga K "reduced")) := He.glo_ok X G (c.fact 23)
theorem g_l_told : mg "_law_told" = some (.ref (He.ga K "_law_told")) := He.glo_ok X G (c.fact 24)
theorem g_InvalidAmount : mg "InvalidAmount" = some (.ref (He.ga K "InvalidAmount")) := He.glo_ok X G (c.fact 25)
theorem g_Amount : mg "Amount" = some (.ref (He.ga K "Amount")) := He.glo_ok X G (c.fact 26)
theorem g_l_amounts : mg "_law_amounts" = some (.ref (He.ga K "_law_amounts")) := He.glo_ok X G (c.fact 27)
theorem g_l_things : mg "_law_things" = some (.ref (He.ga K "_law_things")) := He.glo_ok X G (c.fact 28)
theorem g_SaleError : mg "SaleError" = some (.ref (He.ga K "SaleError")) := He.glo_ok X G (c.fact 29)
theorem g_InvalidFact : mg "InvalidFact" = some (.ref (He.ga K "InvalidFact")) := He.glo_ok X G (c.fact 30)
theorem g_l_refused : mg "_law_refused" = some (.ref (He.ga K "_law_refused")) := He.glo_ok X G (c.fact 31)
theorem g_l_jar : mg "_law_jar" = some (.ref (He.ga K "_law_jar")) := He.glo_ok X G (c.fact 32)
theorem g_l_case : mg "_law_case" = some (.ref (He.ga K "_law_case")) := He.glo_ok X G (c.fact 33)
theorem f_len : mg "len" = none := He.free_ok X G (c.fact 34)
theorem f_min : mg "min" = none := He.free_ok X G (c.fact 35)
theorem f_max : mg "max" = none := He.free_ok X G (c.fact 36)
theorem f_range : mg "range" = none := He.free_ok X G (c.fact 37)
theorem f_int : mg "int" = none := He.free_ok X G (c.fact 38)
theorem f_abs : mg "abs" = none := He.free_ok X G (c.fact 39)
theorem f_sorted : mg "sorted" = none := He.free_ok X G (c.fact 40)
theorem f_isinstance : mg "isinstance" = none := He.free_ok X G (c.fact 41)
theorem f_list : mg "list" = none := He.free_ok X G (c.fact 42)
theorem f_iter : mg "iter" = none := He.free_ok X G (c.fact 43)
theorem f_tuple : mg "tuple" = none := He.free_ok X G (c.fact 44)
theorem f_bool : mg "bool" = none := He.free_ok X G (c.fact 45)
theorem f_sum : mg "sum" = none := He.free_ok X G (c.fact 46)
theorem f_str : mg "str" = none := He.free_ok X G (c.fact 47)
theorem f_ValueError : mg "ValueError" = none := He.free_ok X G (c.fact 48)
omit X G
theorem i_isi : Isi (sgOf K) isiC isiG := kIsi_ok (c.fact 11)
theorem a_Amount_above {X : Cx} : AttOk X (sgOf K) "above" .Amount (.fld 0) := fld_ok (c.fact 8) (c.fact 49)
theorem a_Amount_below {X : Cx} : AttOk X (sgOf K) "below" .Amount (.fld 1) := fld_ok (c.fact 8) (c.fact 50)
theorem a_Urn_rows {X : Cx} : AttOk X (sgOf K) "rows" .Urn (.fld 0) := fld_ok (c.fact 51) (c.fact 52)
theorem a_Urn_weights {X : Cx} : AttOk X (sgOf K) "weights" .Urn (.fld 1) := fld_ok (c.fact 51) (c.fact 53)
theorem a_Urn_whole {X : Cx} : AttOk X (sgOf K) "whole" .Urn (.fld 2) := fld_ok (c.fact 51) (c.fact 54)
theorem e_InvalidAmount : ExcOk (sgOf K) .InvalidAmount := exc_ok (c.fact 58)
theorem e_InvalidUrn : ExcOk (sgOf K) .InvalidUrn := exc_ok (c.fact 59)
include X G
theorem body_l_pick_01 : BodyOk P w (sgOf K) mg base 0 (["_law_jar_here", "_law_many", "_law_found"] : List Str) d_l_pick_01 b_l_pick_01 := by
  intro cdv A outer s H E φ hr hO
  exact (js_cons (js_set 2 sc_l_pick_01.nd (je_op o_mod (je_bt b_int (f_int X G c) (jp_cons (je_ixV 0 rfl je_int) jp_nil)) (je_v 1)))
    (js_cons (js_seti 0 (je_op o_fdiv (je_bt b_int (f_int X G c) (jp_cons (je_ixV 0 rfl je_int) jp_nil)) (je_v 1)) je_int)
    (js_one (js_retX 2))))
theorem ok_l_pick_01 : Dn P w (sgOf K) mg base 1 (He.ga K "_law_pick") [] F_l_pick_01 := dn_all (d := d_l_pick_01) (c.def_ 0) rfl sc_l_pick_01 rfl (fun _ _ _ _ _ _ us hl => match us, hl with | [_, _], _ => rfl) (body_l_pick_01 X G c)
theorem body_l_good_k10 : BodyOk P w (sgOf K) mg base 2 (["_law_jar_here", "_law_pairs", "_law_worth", "_law_turn"] : List Str) d_l_good_k10 b_l_good_k10 := by
  intro cdv A outer s H E φ hr hO
  exact (js_cons (js_setW 1 sc_l_good_k10.nd (jn_lst jp_nil))
    (js_cons (js_set 2 sc_l_good_k10.nd je_int)
    (js_cons (js_for [3] hp_cx rfl (ji_range1 (f_range X G c) (je_op o_addI je_int (JR.toE (jr_call tk_cx ((ok_l_pick_01 X G c).cal hr) (g_l_pick X G c) (ok_l_pick_01 (P := P) (w := w) (base := base) X G c).kp (ja_cons (jx_o 0) (ja_cons (jx_e je_int) ja_nil)))))) (jg_n sc_l_good_k10.nd (i := 3))
    (js_cons (js_set 2 sc_l_good_k10.nd (je_op o_addI (je_op o_addI (je_v 2) je_int) (JR.toE (jr_call tk_cx ((ok_l_pick_01 X G c).cal hr) (g_l_pick X G c) (ok_l_pick_01 (P := P) (w := w) (base := base) X G c).kp (ja_cons (jx_o 0) (ja_cons (jx_e (je_ix rfl (JN.toE (jn_lst (jp_cons je_int (jp_cons je_int jp_nil)))) (JR.toE (jr_call tk_cx ((ok_l_pick_01 X G c).cal hr) (g_l_pick X G c) (ok_l_pick_01 (P := P) (w := w) (base := base) X G c).kp (ja_cons (jx_o 0) (ja_cons (jx_e je_int) ja_nil)))))) ja_nil))))))
    (js_one (js_do (je_ml 1 PySem.F.plainAttrs_list PySem.F.slot_list_insert PySem.F.type_list_insert ml_insert (jp_cons (JR.toE (jr_call tk_cx ((ok_l_pick_01 X G c).cal hr) (g_l_pick X G c) (ok_l_pick_01 (P := P) (w := w) (base := base) X G c).kp (ja_cons (jx_o 0) (ja_cons (jx_e (je_op o_addI (je_len rfl (f_len X G c) (jb_v 1)) je_int)) ja_nil)))) (jp_cons (je_tup (jp_cons (je_v 2) (jp_cons (je_op o_addI je_int (JR.toE (jr_call tk_cx ((ok_l_pick_01 X G c).cal hr) (g_l_pick X G c) (ok_l_pick_01 (P := P) (w := w) (base := base) X G c).kp (ja_cons (jx_o 0) (ja_cons (jx_e je_int) ja_nil))))) jp_nil))) jp_nil)))))))
    (js_cons (js_if (jt_cmp o_eq (JR.toE (jr_call tk_cx ((ok_l_pick_01 X G c).cal hr) (g_l_pick X G c) (ok_l_pick_01 (P := P) (w := w) (base := base) X G c).kp (ja_cons (jx_o 0) (ja_cons (jx_e je_int) ja_nil)))) je_int (nomark _))
    (js_one (js_do (je_append 1 (je_tup (jp_cons je_int (jp_cons je_int jp_nil)))))) js_nil)
    (js_one (js_retW (jn_sl rfl (jx_h 1) jo_none (jo_some je_int))))))))
theorem ok_l_good_k10 : Dn P w (sgOf K) mg base 3 (He.ga K "_law_good") [] F_l_good_k10 := dn_all (d := d_l_good_k10) (c.def_ 1) rfl sc_l_good_k10 rfl (fun _ _ _ _ _ _ us hl => match us, hl with | [_], _ => rfl) (body_l_good_k10 X G c)
theorem body_l_gcd_01 : BodyOk P w (sgOf K) mg base 0 (["_law_one", "_law_other"] : List Str) d_l_gcd_01 b_l_gcd_01 := by
  intro cdv A outer s H E φ hr hO
  exact (js_cons (js_set 0 sc_l_gcd_01.nd (je_bf b_abs (f_abs X G c) (jp_cons (je_v 0) jp_nil)))
    (js_cons (js_set 1 sc_l_gcd_01.nd (je_bf b_abs (f_abs X G c) (jp_cons (je_v 1) jp_nil)))
    (js_cons (js_while n_l_gcd_01_1 (hp_cx) (jt_cmp o_gt (je_v 1) je_int (nomark _))
    (js_one (js_par 0 1 rfl sc_l_gcd_01.nd (je_v 1) (je_op o_mod (je_bt b_int (f_int X G c) (jp_cons (je_v 0) jp_nil)) (je_v 1)))))
    (js_one (js_retX 0)))))
theorem ok_l_gcd_01 : Dn P w (sgOf K) mg base 1 (He.ga K "_law_gcd") [] F_l_gcd_01 := dn_all (d := d_l_gcd_01) (c.def_ 2) rfl sc_l_gcd_01 rfl (fun _ _ _ _ _ _ us hl => match us, hl with | [_, _], _ => rfl) (body_l_gcd_01 X G c)
theorem body_l_least_10 : BodyOk P w (sgOf K) mg base 2 (["_law_pairs", "_law_common", "_law_worth", "_law_weight", "_law_found", "_law_other"] : List Str) d_l_least_10 b_l_least_10 := by
  intro cdv A outer s H E φ hr hO
  exact (js_cons (js_set 1 sc_l_least_10.nd je_int)
    (js_cons (js_forH 0 [] rfl hp_cx rfl (jg_t rfl rfl (jgs_cons (jg_n sc_l_least_10.nd (i := 2)) (jgs_cons (jg_n sc_l_least_10.nd (i := 3)) jgs_nil)) gs2_len)
    (js_one (js_setR 1 sc_l_least_10.nd (jr_call tk_cx ((ok_l_gcd_01 X G c).cal hr) (g_l_gcd X G c) (ok_l_gcd_01 (P := P) (w := w) (base := base) X G c).kp (ja_cons (jx_e (je_v 1)) (ja_cons (jx_e (je_v 3)) ja_nil))))))
    (js_cons (js_setW 4 sc_l_least_10.nd (jn_lst jp_nil))
    (js_cons (js_for [2] hp_cx rfl (ji_list rfl (JN.toE (jn_bfH (b_sorted rfl) (f_sorted X G c) (ja_cons (jx_e (JN.toE (jn_lcG (it := (itH 0)) (vals := Prod.fst) (okf := (okH 0)) (own := [("_law_worth", 2), ("_law_weight", 3)]) (gm := (gT (gsCons (gN 2) (gsCons (gN 3) gsNil)))) (tst := t_l_least_10_2) (fe := e_l_least_10_2) rfl sc_l_least_10.nd (pi_h 0 rfl) (fun σ => wipe_ne (by decide)) (show BlkOk (["_law_pairs", "_law_common", "_law_worth", "_law_weight", "_law_found", "_law_other"] : List Str) (defScope s_l_least_10) _ _ from blkOk_by (by decide +kernel)) (fun φ s H C cl fp => (jg_t rfl rfl (jgs_cons (jg_n sc_l_least_10.nd (i := 2)) (jgs_cons (jg_n sc_l_least_10.nd (i := 3)) jgs_nil)) gs2_len)) (fun s H C cl fp => PTs.none) (fun φ s H C cl fp => (je_bt b_int (f_int X G c) (jp_cons (je_v 2) jp_nil))) (by decide)))) ja_nil)))) (jg_n sc_l_least_10.nd (i := 2))
    (js_one (js_do (je_ml 4 PySem.F.plainAttrs_list PySem.F.slot_list_extend PySem.F.type_list_extend (ml_extend rfl) (jp_cons (JN.toE (jn_lcG (it := (itH 0)) (vals := Prod.fst) (okf := (okH 0)) (own := [("_law_other", 5), ("_law_weight", 3)]) (gm := (gT (gsCons (gN 5) (gsCons (gN 3) gsNil)))) (tst := t_l_least_10_3) (fe := e_l_least_10_3) rfl sc_l_least_10.nd (pi_h 0 rfl) (fun σ => wipe_ne (by decide)) (show BlkOk (["_law_pairs", "_law_common", "_law_worth", "_law_weight", "_law_found", "_law_other"] : List Str) (defScope s_l_least_10) _ _ from blkOk_by (by decide +kernel)) (fun φ s H C cl fp => (jg_t rfl rfl (jgs_cons (jg_n sc_l_least_10.nd (i := 5)) (jgs_cons (jg_n sc_l_least_10.nd (i := 3)) jgs_nil)) gs2_len)) (fun s H C cl fp => PTs.one fun φ => (jt_cmp o_eq (je_v 5) (je_v 2) (nomark _))) (fun φ s H C cl fp => (je_tup (jp_cons (je_v 2) (jp_cons (je_op o_fdiv (je_v 3) (je_v 1)) jp_nil)))) (by decide))) jp_nil)))))
    (js_one (js_retX 4))))))
theorem ok_l_least_10 : Dn P w (sgOf K) mg base 3 (He.ga K "_law_least") [] F_l_least_10 := dn_all (d := d_l_least_10) (c.def_ 3) rfl sc_l_least_10 rfl (fun _ _ _ _ _ _ us hl => match us, hl with | [_], _ => rfl) (body_l_least_10 X G c)
theorem body_Urn_pairs : BodyOk P w (sgOf K) mg base 0 (["self"] : List Str) d_Urn_pairs b_Urn_pairs := by
  intro cdv A outer s H E φ hr hO
  exact (js_one (js_retW (jn_btH (b_list rfl) (f_list X G c) (ja_cons (jx_e (JR.toE (jr_att (tab := atL [(.Urn, .fld 0)]) rfl (at_cons (a_Urn_rows c) at_nil) (jx_e (je_v 0))))) ja_nil))))
theorem ok_Urn_pairs : Dn P w (sgOf K) mg base 1 (pg K .Urn "pairs") [] F_Urn_pairs := dn_all (d := d_Urn_pairs) (c.def_ 4) rfl sc_Urn_pairs rfl (fun _ _ _ _ _ _ us hl => match us, hl with | [_], _ => rfl) (body_Urn_pairs X G c)
theorem itr_Urn : DnI P w (sgOf K) mg base 1 (pa K .Urn "__iter__") (He.ga K "Urn") "rows" := dn_iter (d := d_Urn_iter) (c.def_ 5) rfl sc_Urn_iter rfl (fun _ _ _ _ _ _ us hl => match us, hl with | [_], _ => rfl) (fun cdv A outer s H E => iter_pss (kCls_ok (c := .Urn) (c.fact 51)).cls (He.noat_ok (c.fact 52)) (f_iter X G c))
theorem body_l_whole : BodyOk P w (sgOf K) mg base 0 (["_law_found"] : List Str) d_l_whole b_l_whole := by
  intro cdv A outer s H E φ hr hO
  exact (js_one (js_ret (je_and (je_bf (b_isi rfl (i_isi c)) (f_isinstance X G c) (jp_cons (je_v 0) (jp_cons (je_ty (f_int X G c)) jp_nil))) (je_one (je_not (je_bf (b_isi rfl (i_isi c)) (f_isinstance X G c) (jp_cons (je_v 0) (jp_cons (je_ty (f_bool X G c)) jp_nil))))))))
theorem ok_l_whole : Dn P w (sgOf K) mg base 1 (He.ga K "_law_whole") [] F_l_whole := dn_all (d := d_l_whole) (c.def_ 6) rfl sc_l_whole rfl (fun _ _ _ _ _ _ us hl => match us, hl with | [_], _ => rfl) (body_l_whole X G c)
theorem body_l_told_k10 : BodyOk P w (sgOf K) mg base 3 (["_law_urn", "_law_pairs", "_law_found", "_law_k"] : List Str) d_l_told_k10 b_l_told_k10 := by
  intro cdv A outer s H E φ hr hO
  exact (js_cons (js_if (jt_not (jt_val (je_bf (b_isi rfl (i_isi c)) (f_isinstance X G c) (jp_cons (je_v 0) (jp_cons (je_cls rfl (g_Urn X G c)) jp_nil)))))
    (js_one (js_ret je_bl)) js_nil)
    (js_cons (js_setR 2 sc_l_told_k10.nd (jr_att (tab := atL [(.Urn, .prop F_Urn_pairs)]) rfl (at_cons (prop_ok (c.fact 51) (c.fact 55) ((ok_Urn_pairs X G c).cal hr)) at_nil) (jx_e (je_v 0))))
    (js_cons (js_if (jt_w (JT.or (jt_not (jt_val (je_bfH (b_isiH rfl (i_isi c)) (f_isinstance X G c) (ja_cons (jx_h 2) (ja_cons (jx_e (je_ty (f_list X G c))) ja_nil))))) (JT.or (jt_cmp o_ne (je_len rfl (f_len X G c) (jb_v 2)) (je_len rfl (f_len X G c) (jb_v 1)) (nomark _)) (JT.or1 (jt_cmpH (h_neD rfl hr.units) (jx_e (JN.toE (jn_btH (b_listOb (tab := (fiL [(.Urn, 0)])) rfl rfl (tb_cons (itr_ok2 (c.fact 0) (c.fact 1) (itr_Urn X G c) hr) tb_nil)) (f_list X G c) (ja_cons (jx_h 0) ja_nil)))) (jx_h 2) (nomark _))))))
    (js_one (js_ret je_bl)) js_nil)
    (js_cons (js_for [3] hp_cx rfl (ji_range1 (f_range X G c) (je_len rfl (f_len X G c) (jb_v 1))) (jg_n sc_l_told_k10.nd (i := 3))
    (js_cons (js_if (jt_w (JT.or (jt_not (jt_val (je_bf (b_isi rfl (i_isi c)) (f_isinstance X G c) (jp_cons (je_ixV 2 rfl (je_v 3)) (jp_cons (je_ty (f_tuple X G c)) jp_nil))))) (JT.or (jt_cmp o_ne (je_len rfl (f_len X G c) (JE.toB (je_ixV 2 rfl (je_v 3)))) je_int (nomark _)) (JT.or1 (jt_cmpH (h_neD rfl hr.units) (jx_e (je_ixV 2 rfl (je_v 3))) (jx_e (je_ixV 1 rfl (je_v 3))) (nomark _))))))
    (js_one (js_ret je_bl)) js_nil)
    (js_one (js_if (jt_w (JT.or (jt_not (jt_val (JR.toE (jr_call tk_cx ((ok_l_whole X G c).cal hr) (g_l_whole X G c) (ok_l_whole (P := P) (w := w) (base := base) X G c).kp (ja_cons (jx_e (je_ix rfl (je_ixV 2 rfl (je_v 3)) je_int)) ja_nil))))) (JT.or1 (jt_not (jt_val (JR.toE (jr_call tk_cx ((ok_l_whole X G c).cal hr) (g_l_whole X G c) (ok_l_whole (P := P) (w := w) (base := base) X G c).kp (ja_cons (jx_e (je_ix rfl (je_ixV 2 rfl (je_v 3)) je_int)) ja_nil))))))))
    (js_one (js_ret je_bl)) js_nil))))
    (js_one (js_ret je_bl))))))
theorem ok_l_told_k10 : Dn P w (sgOf K) mg base 4 (He.ga K "_law_told") [] F_l_told_k10 := dn_all (d := d_l_told_k10) (c.def_ 7) rfl sc_l_told_k10 rfl (fun _ _ _ _ _ _ us hl => match us, hl with | [_, _], _ => rfl) (body_l_told_k10 X G c)
theorem body_is_integer : BodyOk P w (sgOf K) mg base 0 (["value"] : List Str) d_is_integer b_is_integer := by
  intro cdv A outer s H E φ hr hO
  exact (js_one (js_ret (je_and (je_bf (b_isi rfl (i_isi c)) (f_isinstance X G c) (jp_cons (je_v 0) (jp_cons (je_ty (f_int X G c)) jp_nil))) (je_one (je_not (je_bf (b_isi rfl (i_isi c)) (f_isinstance X G c) (jp_cons (je_v 0) (jp_cons (je_ty (f_bool X G c)) jp_nil))))))))
theorem ok_is_integer : Dn P w (sgOf K) mg base 1 (He.ga K "is_integer") [] F_is_integer := dn_all (d := d_is_integer) (c.def_ 8) rfl sc_is_integer rfl (fun _ _ _ _ _ _ us hl => match us, hl with | [_], _ => rfl) (body_is_integer X G c)
theorem body_is_pair : BodyOk P w (sgOf K) mg base 2 (["value", "worth", "weight"] : List Str) d_is_pair b_is_pair := by
  intro cdv A outer s H E φ hr hO
  exact (js_cons (js_if (jt_w (JT.or (jt_not (jt_val (je_bf (b_isi rfl (i_isi c)) (f_isinstance X G c) (jp_cons (je_v 0) (jp_cons (je_ty (f_tuple X G c)) jp_nil))))) (JT.or1 (jt_cmp o_ne (je_len rfl (f_len X G c) (jb_v 0)) je_int (nomark _)))))
    (js_one (js_ret je_bl)) js_nil)
    (js_cons (js_asg (je_v 0) (jg_t rfl rfl (jgs_cons (jg_n sc_is_pair.nd (i := 1)) (jgs_cons (jg_n sc_is_pair.nd (i := 2)) jgs_nil)) gs2_len))
    (js_one (js_ret (je_and (JR.toE (jr_call tk_cx ((ok_is_integer X G c).cal hr) (g_is_integer X G c) (ok_is_integer (P := P) (w := w) (base := base) X G c).kp (ja_cons (jx_e (je_v 1)) ja_nil))) (je_and (JR.toE (jr_call tk_cx ((ok_is_integer X G c).cal hr) (g_is_integer X G c) (ok_is_integer (P := P) (w := w) (base := base) X G c).kp (ja_cons (jx_e (je_v 2)) ja_nil))) (je_and (je_cmp o_ge (je_v 1) je_int (nomark _)) (je_one (je_cmp o_ge (je_v 2) je_int (nomark _))))))))))
theorem ok_is_pair : Dn P w (sgOf K) mg base 3 (He.ga K "is_pair") [] F_is_pair := dn_all (d := d_is_pair) (c.def_ 9) rfl sc_is_pair rfl (fun _ _ _ _ _ _ us hl => match us, hl with | [_], _ => rfl) (body_is_pair X G c)
theorem body_is_list_of_pairs_v1 : BodyOk P w (sgOf K) mg base 4 (["value", "pair"] : List Str) d_is_list_of_pairs_v1 b_is_list_of_pairs_v1 := by
  intro cdv A outer s H E φ hr hO
  exact (js_cons (js_if (jt_w (JT.or (jt_not (jt_val (je_two (je_bfH (b_isiH rfl (i_isi c)) (f_isinstance X G c) (ja_cons (jx_h 0) (ja_cons (jx_e (je_ty (f_list X G c))) ja_nil))) (je_bf (b_isi rfl (i_isi c)) (f_isinstance X G c) (jp_cons (je_v 0) (jp_cons (je_ty (f_list X G c)) jp_nil)))))) (JT.or1 (jt_cmp o_eq (je_len rfl (f_len X G c) (jb_v 0)) je_int (nomark _)))))
    (js_one (js_ret je_bl)) js_nil)
    (js_cons (js_forH 0 [1] rfl hp_cx rfl (jg_n sc_is_list_of_pairs_v1.nd (i := 1))
    (js_one (js_if (jt_not (jt_val (JR.toE (jr_call tk_cx ((ok_is_pair X G c).cal hr) (g_is_pair X G c) (ok_is_pair (P := P) (w := w) (base := base) X G c).kp (ja_cons (jx_e (je_v 1)) ja_nil)))))
    (js_one (js_ret je_bl)) js_nil)))
    (js_one (js_ret je_bl))))
theorem ok_is_list_of_pairs_v1 : Dn P w (sgOf K) mg base 5 (He.ga K "is_list_of_pairs") [] F_is_list_of_pairs_v1 := dn_all (d := d_is_list_of_pairs_v1) (c.def_ 10) rfl sc_is_list_of_pairs_v1 rfl (fun _ _ _ _ _ _ us hl => match us, hl with | [_], _ => rfl) (body_is_list_of_pairs_v1 X G c)
theorem body_common_divisor : BodyOk P w (sgOf K) mg base 0 (["one", "other"] : List Str) d_common_divisor b_common_divisor := by
  intro cdv A outer s H E φ hr hO
  exact (js_cons (js_set 0 sc_common_divisor.nd (je_bf b_abs (f_abs X G c) (jp_cons (je_v 0) jp_nil)))
    (js_cons (js_set 1 sc_common_divisor.nd (je_bf b_abs (f_abs X G c) (jp_cons (je_v 1) jp_nil)))
    (js_cons (js_while n_common_divisor_1 (hp_cx) (jt_cmp o_gt (je_v 1) je_int (nomark _))
    (js_one (js_par 0 1 rfl sc_common_divisor.nd (je_v 1) (je_op o_mod (je_bt b_int (f_int X G c) (jp_cons (je_v 0) jp_nil)) (je_v 1)))))
    (js_one (js_retX 0)))))
theorem ok_common_divisor : Dn P w (sgOf K) mg base 1 (He.ga K "common_divisor") [] F_common_divisor := dn_all (d := d_common_divisor) (c.def_ 11) rfl sc_common_divisor rfl (fun _ _ _ _ _ _ us hl => match us, hl with | [_, _], _ => rfl) (body_common_divisor X G c)
theorem body_reduced : BodyOk P w (sgOf K) mg base 2 (["weights", "common", "worth"] : List Str) d_reduced b_reduced := by
  intro cdv A outer s H E φ hr hO
  exact (js_cons (js_set 1 sc_reduced.nd je_int)
    (js_cons (js_for [] hp_cx rfl (ji_keys (je_v 0)) (jg_n sc_reduced.nd (i := 2))
    (js_one (js_setR 1 sc_reduced.nd (jr_call tk_cx ((ok_common_divisor X G c).cal hr) (g_common_divisor X G c) (ok_common_divisor (P := P) (w := w) (base := base) X G c).kp (ja_cons (jx_e (je_v 1)) (ja_cons (jx_e (je_dgV 0 (un1 hr) (je_v 2))) ja_nil))))))
    (js_one (js_retW (jn_lcG (it := (iL (nBfH bSorted (aCons (aP (lcM (iK (eV 0)) id (fun _ _ => True) (gN 2) t_reduced_2 e_reduced_2 [2])) aNil)))) (vals := id) (okf := (fun _ _ => True)) (own := [("worth", 2)]) (gm := (gN 2)) (tst := t_reduced_3) (fe := e_reduced_3) rfl sc_reduced.nd (pi_f (ji_list rfl (JN.toE (jn_bfH (b_sorted rfl) (f_sorted X G c) (ja_cons (jx_e (JN.toE (jn_lcG (it := (iK (eV 0))) (vals := id) (okf := (fun _ _ => True)) (own := [("worth", 2)]) (gm := (gN 2)) (tst := t_reduced_2) (fe := e_reduced_2) rfl sc_reduced.nd (pi_f (ji_keys (je_v 0))) (fun _ => True.intro) (show BlkOk (["weights", "common", "worth"] : List Str) (defScope s_reduced) _ _ from blkOk_by (by decide +kernel)) (fun φ s H C cl fp => (jg_n sc_reduced.nd (i := 2))) (fun s H C cl fp => PTs.none) (fun φ s H C cl fp => (je_bt b_int (f_int X G c) (jp_cons (je_v 2) jp_nil))) (by decide)))) ja_nil))))) (fun _ => True.intro) (show BlkOk (["weights", "common", "worth"] : List Str) (defScope s_reduced) _ _ from blkOk_by (by decide +kernel)) (fun φ s H C cl fp => (jg_n sc_reduced.nd (i := 2))) (fun s H C cl fp => PTs.none) (fun φ s H C cl fp => (je_tup (jp_cons (je_v 2) (jp_cons (je_op o_fdiv (je_dgV 0 (un1 hr) (je_v 2)) (je_v 1)) jp_nil)))) (by decide))))))
theorem ok_reduced : Dn P w (sgOf K) mg base 3 (He.ga K "reduced") [] F_reduced := dn_all (d := d_reduced) (c.def_ 12) rfl sc_reduced rfl (fun _ _ _ _ _ _ us hl => match us, hl with | [_], _ => rfl) (body_reduced X G c)
theorem body_Urn_init_v1 : BodyOk P w (sgOf K) mg base 6 (["self", "pairs", "weights", "worth", "weight"] : List Str) d_Urn_init_v1 b_Urn_init_v1 := by
  intro cdv A outer s H E φ hr hO
  exact (js_cons (js_if (jt_not (jt_val (JR.toE (jr_call tk_cx ((ok_is_list_of_pairs_v1 X G c).cal hr) (g_is_list_of_pairs X G c) (ok_is_list_of_pairs_v1 (P := P) (w := w) (base := base) X G c).kp (ja_cons (jx_h 1) ja_nil)))))
    (js_one (js_raise rfl tk_cx rfl (e_InvalidUrn c) (g_InvalidUrn X G c))) js_nil)
    (js_cons (js_setW 2 sc_Urn_init_v1.nd jn_dct)
    (js_cons (js_forH 1 [] rfl hp_cx rfl (jg_t rfl rfl (jgs_cons (jg_n sc_Urn_init_v1.nd (i := 3)) (jgs_cons (jg_n sc_Urn_init_v1.nd (i := 4)) jgs_nil)) gs2_len)
    (js_cons (js_if (jt_inD (un1 hr) (je_v 3) (jb_v 2))
    (js_one (js_raise rfl tk_cx rfl (e_InvalidUrn c) (g_InvalidUrn X G c))) js_nil)
    (js_one (js_setd 2 (un1 hr) (je_v 4) (je_v 3)))))
    (js_cons (js_setf 0 (tab := fiL [(.Urn, 0)]) rfl (fi_cons (a_Urn_rows c) fi_nil) (JR.toE (jr_call tk_cx ((ok_reduced X G c).cal hr) (g_reduced X G c) (ok_reduced (P := P) (w := w) (base := base) X G c).kp (ja_cons (jx_e (je_v 2)) ja_nil))))
    (js_cons (js_setf 0 (tab := fiL [(.Urn, 1)]) rfl (fi_cons (a_Urn_weights c) fi_nil) (JN.toE (jn_dcG (it := (iL (eR (eAtt (atL [(.Urn, .fld 0)]) (aH 0))))) (vals := id) (okf := (fun _ _ => True)) (own := [("worth", 3), ("weight", 4)]) (gm := (gT (gsCons (gN 3) (gsCons (gN 4) gsNil)))) (tst := t_Urn_init_v1_2) (fk := k_Urn_init_v1_2) (fe := e_Urn_init_v1_2) rfl sc_Urn_init_v1.nd (pi_f (ji_list rfl (JR.toE (jr_att (tab := atL [(.Urn, .fld 0)]) rfl (at_cons (a_Urn_rows c) at_nil) (jx_h 0))))) (fun _ => True.intro) (show BlkOk (["self", "pairs", "weights", "worth", "weight"] : List Str) (defScope s_Urn_init_v1) _ _ from blkOk_by (by decide +kernel)) (fun φ s H C cl fp => (jg_t rfl rfl (jgs_cons (jg_n sc_Urn_init_v1.nd (i := 3)) (jgs_cons (jg_n sc_Urn_init_v1.nd (i := 4)) jgs_nil)) gs2_len)) (fun s H C cl fp => PTs.none) (fun φ s H C cl fp => (je_v 3)) (fun φ s H C cl fp => (je_v 4)) (by decide))))
    (js_one (js_setf 0 (tab := fiL [(.Urn, 2)]) rfl (fi_cons (a_Urn_whole c) fi_nil) (je_bfH (b_sum rfl rfl) (f_sum X G c) (ja_cons (jx_e (JN.toE (jn_lcG (it := (iL (eR (eAtt (atL [(.Urn, .fld 0)]) (aH 0))))) (vals := id) (okf := (fun _ _ => True)) (own := [("worth", 3), ("weight", 4)]) (gm := (gT (gsCons (gN 3) (gsCons (gN 4) gsNil)))) (tst := t_Urn_init_v1_3) (fe := e_Urn_init_v1_3) rfl sc_Urn_init_v1.nd (pi_f (ji_list rfl (JR.toE (jr_att (tab := atL [(.Urn, .fld 0)]) rfl (at_cons (a_Urn_rows c) at_nil) (jx_h 0))))) (fun _ => True.intro) (show BlkOk (["self", "pairs", "weights", "worth", "weight"] : List Str) (defScope s_Urn_init_v1) _ _ from blkOk_by (by decide +kernel)) (fun φ s H C cl fp => (jg_t rfl rfl (jgs_cons (jg_n sc_Urn_init_v1.nd (i := 3)) (jgs_cons (jg_n sc_Urn_init_v1.nd (i := 4)) jgs_nil)) gs2_len)) (fun s H C cl fp => PTs.none) (fun φ s H C cl fp => (je_v 4)) (by decide)))) ja_nil)))))))))
theorem ok_Urn_init_v1 : Dn P w (sgOf K) mg base 7 (pa K .Urn "__init__") [] F_Urn_init_v1 := dn_all (d := d_Urn_init_v1) (c.def_ 13) rfl sc_Urn_init_v1 rfl (fun _ _ _ _ _ _ us hl => match us, hl with | [_, _], _ => rfl) (body_Urn_init_v1 X G c)
theorem body_Amount_init : BodyOk P w (sgOf K) mg base 2 (["self", "top", "bottom", "common"] : List Str) d_Amount_init b_Amount_init := by
  intro cdv A outer s H E φ hr hO
  exact (js_cons (js_if (jt_w (JT.or (jt_not (jt_val (JR.toE (jr_call tk_cx ((ok_is_integer X G c).cal hr) (g_is_integer X G c) (ok_is_integer (P := P) (w := w) (base := base) X G c).kp (ja_cons (jx_e (je_v 1)) ja_nil))))) (JT.or (jt_not (jt_val (JR.toE (jr_call tk_cx ((ok_is_integer X G c).cal hr) (g_is_integer X G c) (ok_is_integer (P := P) (w := w) (base := base) X G c).kp (ja_cons (jx_e (je_v 2)) ja_nil))))) (JT.or1 (jt_cmp o_eq (je_v 2) je_int (nomark _))))))
    (js_one (js_raise rfl tk_cx rfl (e_InvalidAmount c) (g_InvalidAmount X G c))) js_nil)
    (js_cons (js_setR 3 sc_Amount_init.nd (jr_call tk_cx ((ok_common_divisor X G c).cal hr) (g_common_divisor X G c) (ok_common_divisor (P := P) (w := w) (base := base) X G c).kp (ja_cons (jx_e (je_v 1)) (ja_cons (jx_e (je_v 2)) ja_nil))))
    (js_cons (js_if (jt_cmp o_lt (je_v 2) je_int (nomark _))
    (js_one (js_set 3 sc_Amount_init.nd (je_neg (je_v 3)))) js_nil)
    (js_cons (js_setf 0 (tab := fiL [(.Amount, 0)]) rfl (fi_cons (a_Amount_above c) fi_nil) (je_op o_fdiv (je_v 1) (je_v 3)))
    (js_one (js_setf 0 (tab := fiL [(.Amount, 1)]) rfl (fi_cons (a_Amount_below c) fi_nil) (je_op o_fdiv (je_v 2) (je_v 3))))))))
theorem ok_Amount_init : Dn P w (sgOf K) mg base 3 (pa K .Amount "__init__") [] F_Amount_init := dn_dfl (d := d_Amount_init) (c.def_ 14) 3 1 [] (by simp [d_Amount_init]) rfl (fun _ => rfl) sc_Amount_init rfl (fun _ _ _ _ _ _ _ us its h1 h2 => match us, its, h1, h2 with | [_, _, _], [_], _, _ => ⟨_, rfl, rfl⟩) (body_Amount_init X G c)
theorem ok_Amount_init_d1 : Dn P w (sgOf K) mg base 3 (pa K .Amount "__init__") [.int 1] F_Amount_init := dn_dfl (d := d_Amount_init) (c.def_ 14) 2 0 [.int 1] (by simp [d_Amount_init]) rfl (fun _ => ⟨_, _, rfl, rfl, rfl⟩) sc_Amount_init rfl (fun _ _ _ _ _ _ _ us its h1 h2 => match us, its, h1, h2 with | [_, _], [_], _, _ => ⟨_, rfl, rfl⟩) (body_Amount_init X G c)
theorem body_l_amounts_k10 : BodyOk P w (sgOf K) mg base 4 (["_law_worth", "_law_weight"] : List Str) d_l_amounts_k10 b_l_amounts_k10 := by
  intro cdv A outer s H E φ hr hO
  exact (js_one (js_retW (jn_lst (jp_cons (je_tup (jp_cons (JN.toE (jn_make tk_cx rfl (make_ok (c.fact 57) ((ok_Amount_init_d1 X G c).cal hr)) (g_Amount X G c) (ja_cons (jx_e (je_v 0)) ja_nil))) (jp_cons (je_v 1) jp_nil))) (jp_cons (je_tup (jp_cons (je_v 0) (jp_cons (JN.toE (jn_make tk_cx rfl (make_ok (c.fact 57) ((ok_Amount_init_d1 X G c).cal hr)) (g_Amount X G c) (ja_cons (jx_e (je_v 1)) ja_nil))) jp_nil))) (jp_cons (je_tup (jp_cons (je_v 0) (jp_cons (JN.toE (jn_make tk_cx rfl (make_ok (c.fact 57) ((ok_Amount_init X G c).cal hr)) (g_Amount X G c) (ja_cons (jx_e (je_v 1)) (ja_cons (jx_e je_int) ja_nil)))) jp_nil))) (jp_cons (je_tup (jp_cons (JN.toE (jn_make tk_cx rfl (make_ok (c.fact 57) ((ok_Amount_init X G c).cal hr)) (g_Amount X G c) (ja_cons (jx_e je_int) (ja_cons (jx_e je_int) ja_nil)))) (jp_cons (je_v 1) jp_nil))) jp_nil)))))))
theorem ok_l_amounts_k10 : Dn P w (sgOf K) mg base 5 (He.ga K "_law_amounts") [] F_l_amounts_k10 := dn_all (d := d_l_amounts_k10) (c.def_ 15) rfl sc_l_amounts_k10 rfl (fun _ _ _ _ _ _ us hl => match us, hl with | [_, _], _ => rfl) (body_l_amounts_k10 X G c)
theorem body_l_things_k10 : BodyOk P w (sgOf K) mg base 6 (["_law_pairs", "_law_spot", "_law_worth", "_law_weight", "_law_other", "_law_things_here"] : List Str) d_l_things_k10 b_l_things_k10 := by
  intro cdv A outer s H E φ hr hO
  exact (js_cons (js_asg (je_ixV 0 rfl (je_v 1)) (jg_t rfl rfl (jgs_cons (jg_n sc_l_things_k10.nd (i := 2)) (jgs_cons (jg_n sc_l_things_k10.nd (i := 3)) jgs_nil)) gs2_len))
    (js_cons (js_set 4 sc_l_things_k10.nd (je_ix rfl (je_ixV 0 rfl (je_op o_sub (je_v 1) je_int)) je_int))
    (js_cons (js_setW 5 sc_l_things_k10.nd (jn_lst (jp_cons (je_tup (jp_cons (je_v 2) (jp_cons je_int jp_nil))) (jp_cons (je_tup (jp_cons (je_v 2) (jp_cons (je_neg (je_v 3)) jp_nil))) (jp_cons (je_tup (jp_cons (je_op o_sub (je_neg je_int) (je_v 2)) (jp_cons (je_v 3) jp_nil))) (jp_cons (je_tup (jp_cons (je_v 2) (jp_cons je_bl jp_nil))) (jp_cons (je_tup (jp_cons je_bl (jp_cons (je_v 3) jp_nil))) (jp_cons (je_tup (jp_cons je_bl (jp_cons (je_v 3) jp_nil))) jp_nil))))))))
    (js_cons (js_do (je_ml 5 PySem.F.plainAttrs_list PySem.F.slot_list_extend PySem.F.type_list_extend (ml_extend rfl) (jp_cons (JN.toE (jn_lst (jp_cons (je_tup (jp_cons (je_v 2) (jp_cons je_non jp_nil))) (jp_cons (je_tup (jp_cons je_non (jp_cons (je_v 3) jp_nil))) (jp_cons (je_tup (jp_cons (je_bt b_str (f_str X G c) (jp_cons (je_v 2) jp_nil)) (jp_cons (je_v 3) jp_nil))) (jp_cons (je_tup (jp_cons (je_v 2) (jp_cons (je_bt b_str (f_str X G c) (jp_cons (je_v 3) jp_nil)) jp_nil))) (jp_cons (JN.toE (jn_lst (jp_cons (je_v 2) (jp_cons (je_v 3) jp_nil)))) jp_nil))))))) jp_nil)))
    (js_cons (js_do (je_ml 5 PySem.F.plainAttrs_list PySem.F.slot_list_extend PySem.F.type_list_extend (ml_extend rfl) (jp_cons (JN.toE (jn_lst (jp_cons (je_v 2) (jp_cons je_non (jp_cons (je_op o_addS (je_bt b_str (f_str X G c) (jp_cons (je_v 2) jp_nil)) je_str) (jp_cons (je_tup (jp_cons (je_v 2) jp_nil)) (jp_cons (je_tup (jp_cons (je_v 2) (jp_cons (je_v 3) (jp_cons (je_v 3) jp_nil)))) (jp_cons (je_tup jp_nil) (jp_cons (je_tup (jp_cons (je_v 4) (jp_cons (je_v 3) jp_nil))) jp_nil))))))))) jp_nil)))
    (js_cons (js_do (je_append 5 (je_tup (jp_cons (je_v 4) (jp_cons (je_ix rfl (je_ixV 0 rfl (je_op o_sub (je_v 1) je_int)) je_int) jp_nil)))))
    (js_one (js_retW (jn_opH (n_cat rfl) (jx_h 5) (jx_e (JR.toE (jr_call tk_cx ((ok_l_amounts_k10 X G c).cal hr) (g_l_amounts X G c) (ok_l_amounts_k10 (P := P) (w := w) (base := base) X G c).kp (ja_cons (jx_e (je_v 2)) (ja_cons (jx_e (je_v 3)) ja_nil))))))))))))))
theorem ok_l_things_k10 : Dn P w (sgOf K) mg base 7 (He.ga K "_law_things") [] F_l_things_k10 := dn_all (d := d_l_things_k10) (c.def_ 16) rfl sc_l_things_k10 rfl (fun _ _ _ _ _ _ us hl => match us, hl with | [_, _], _ => rfl) (body_l_things_k10 X G c)
theorem body_l_refused_k10 : BodyOk P w (sgOf K) mg base 8 (["_law_alien", "_law_found", "e"] : List Str) d_l_refused_k10 b_l_refused_k10 := by
  intro cdv A outer s H E φ hr hO
  exact (js_cons (js_set 1 sc_l_refused_k10.nd je_non)
    (js_cons (js_tryKeep (cs := [.InvalidUrn]) (c0 := .SaleError) 2 1 tk_cx sc_l_refused_k10.nd rfl (kExm_ok (c.fact 2)) (g_SaleError X G c) (fun W7 pn7 xe7 tk7 => (js_one (js_do (JN.toE (jn_make tk7 rfl (make_ok (c.fact 56) ((ok_Urn_init_v1 X G c).cal hr)) (g_Urn X G c) (ja_cons (jx_h 0) ja_nil)))))))
    (js_cons (js_if (jt_w (JT.or (jt_not (jt_val (je_isEc (cs := [.SaleError, .InvalidAmount, .InvalidUrn, .InvalidFact]) (A := .InvalidUrn) rfl (je_v 1) (g_InvalidUrn X G c) (kExC_ok (c.fact 3)) (kExA_ok (c.fact 4)) (f_isinstance X G c)))) (JT.or1 (jt_not (jt_val (je_isEt (cs := [.SaleError, .InvalidAmount, .InvalidUrn, .InvalidFact]) (n0 := "ValueError") rfl (je_v 1) (f_ValueError X G c) (kExC_ok (c.fact 3)) (kExT_ok (c.fact 5)) (f_isinstance X G c)))))))
    (js_one (js_ret je_bl)) js_nil)
    (js_one (js_ret (je_and (je_not (je_isEc (cs := [.SaleError, .InvalidAmount, .InvalidUrn, .InvalidFact]) (A := .InvalidAmount) rfl (je_v 1) (g_InvalidAmount X G c) (kExC_ok (c.fact 3)) (kExA_ok (c.fact 6)) (f_isinstance X G c))) (je_one (je_not (je_isEc (cs := [.SaleError, .InvalidAmount, .InvalidUrn, .InvalidFact]) (A := .InvalidFact) rfl (je_v 1) (g_InvalidFact X G c) (kExC_ok (c.fact 3)) (kExA_ok (c.fact 7)) (f_isinstance X G c))))))))))
theorem ok_l_refused_k10 : Dn P w (sgOf K) mg base 9 (He.ga K "_law_refused") [] F_l_refused_k10 := dn_all (d := d_l_refused_k10) (c.def_ 17) rfl sc_l_refused_k10 rfl (fun _ _ _ _ _ _ us hl => match us, hl with | [_], _ => rfl) (body_l_refused_k10 X G c)
theorem body_Amount_eq : BodyOk P w (sgOf K) mg base 2 (["self", "other"] : List Str) d_Amount_eq b_Amount_eq := by
  intro cdv A outer s H E φ hr hO
  exact (js_cons (js_if (jt_val (je_bf (b_isi rfl (i_isi c)) (f_isinstance X G c) (jp_cons (je_v 1) (jp_cons (je_cls rfl (g_Amount X G c)) jp_nil))))
    (js_one (js_ret (je_and (je_cmp o_eq (JR.toE (jr_att (tab := atL [(.Amount, .fld 0)]) rfl (at_cons (a_Amount_above c) at_nil) (jx_e (je_v 0)))) (JR.toE (jr_att (tab := atL [(.Amount, .fld 0)]) rfl (at_cons (a_Amount_above c) at_nil) (jx_h 1))) (nomark _)) (je_one (je_cmp o_eq (JR.toE (jr_att (tab := atL [(.Amount, .fld 1)]) rfl (at_cons (a_Amount_below c) at_nil) (jx_e (je_v 0)))) (JR.toE (jr_att (tab := atL [(.Amount, .fld 1)]) rfl (at_cons (a_Amount_below c) at_nil) (jx_h 1))) (nomark _)))))) js_nil)
    (js_one (js_ret (je_and (JR.toE (jr_call tk_cx ((ok_is_integer X G c).cal hr) (g_is_integer X G c) (ok_is_integer (P := P) (w := w) (base := base) X G c).kp (ja_cons (jx_h 1) ja_nil))) (je_and (je_cmp o_eq (JR.toE (jr_att (tab := atL [(.Amount, .fld 1)]) rfl (at_cons (a_Amount_below c) at_nil) (jx_e (je_v 0)))) je_int (nomark _)) (je_one (je_cmp o_eq (JR.toE (jr_att (tab := atL [(.Amount, .fld 0)]) rfl (at_cons (a_Amount_above c) at_nil) (jx_e (je_v 0)))) (je_v 1) (nomark _))))))))
theorem ok_Amount_eq : Dn P w (sgOf K) mg base 3 (pa K .Amount "__eq__") [] F_Amount_eq := dn_all (d := d_Amount_eq) (c.def_ 18) rfl sc_Amount_eq rfl (fun _ _ _ _ _ _ us hl => match us, hl with | [_, _], _ => rfl) (body_Amount_eq X G c)
theorem body_l_case_k10 : BodyOk P w (sgOf K) mg base 10 (["_law_jar_here", "_law_pairs", "_law_due", "_law_spot", "_law_thing", "_law_bad", "_law_kept", "_law_alien"] : List Str) d_l_case_k10 b_l_case_k10 := by
  intro cdv A outer s H E φ hr hO
  exact (js_cons (js_setR 1 sc_l_case_k10.nd (jr_call tk_cx ((ok_l_good_k10 X G c).cal hr) (g_l_good X G c) (ok_l_good_k10 (P := P) (w := w) (base := base) X G c).kp (ja_cons (jx_o 0) ja_nil)))
    (js_cons (js_setR 2 sc_l_case_k10.nd (jr_call tk_cx ((ok_l_least_10 X G c).cal hr) (g_l_least X G c) (ok_l_least_10 (P := P) (w := w) (base := base) X G c).kp (ja_cons (jx_e (je_v 1)) ja_nil)))
    (js_cons (js_if (jt_not (jt_val (JR.toE (jr_call tk_cx ((ok_l_told_k10 X G c).cal hr) (g_l_told X G c) (ok_l_told_k10 (P := P) (w := w) (base := base) X G c).kp (ja_cons (jx_e (JN.toE (jn_make tk_cx rfl (make_ok (c.fact 56) ((ok_Urn_init_v1 X G c).cal hr)) (g_Urn X G c) (ja_cons (jx_e (JN.toE (jn_btH (b_list rfl) (f_list X G c) (ja_cons (jx_h 1) ja_nil)))) ja_nil)))) (ja_cons (jx_e (je_v 2)) ja_nil))))))
    (js_one (js_ret je_bl)) js_nil)
    (js_cons (js_setR 3 sc_l_case_k10.nd (jr_call tk_cx ((ok_l_pick_01 X G c).cal hr) (g_l_pick X G c) (ok_l_pick_01 (P := P) (w := w) (base := base) X G c).kp (ja_cons (jx_o 0) (ja_cons (jx_e (je_len rfl (f_len X G c) (jb_v 1))) ja_nil))))
    (js_cons (js_for [4, 5, 6] hp_cx rfl (ji_list rfl (JR.toE (jr_call tk_cx ((ok_l_things_k10 X G c).cal hr) (g_l_things X G c) (ok_l_things_k10 (P := P) (w := w) (base := base) X G c).kp (ja_cons (jx_e (je_v 1)) (ja_cons (jx_e (je_v 3)) ja_nil))))) (jg_n sc_l_case_k10.nd (i := 4))
    (js_cons (js_setW 5 sc_l_case_k10.nd (jn_opH (n_cat rfl) (jx_e (JN.toE (jn_opH (n_cat rfl) (jx_e (JN.toE (jn_sl rfl (jx_h 1) jo_none (jo_some (je_v 3))))) (jx_e (JN.toE (jn_lst (jp_cons (je_v 4) jp_nil))))))) (jx_e (JN.toE (jn_sl rfl (jx_h 1) (jo_some (je_op o_addI (je_v 3) je_int)) jo_none)))))
    (js_cons (js_setW 6 sc_l_case_k10.nd (jn_btH (b_list rfl) (f_list X G c) (ja_cons (jx_h 5) ja_nil)))
    (js_one (js_if (jt_w (JT.or (jt_not (jt_val (JR.toE (jr_call tk_cx ((ok_l_refused_k10 X G c).cal hr) (g_l_refused X G c) (ok_l_refused_k10 (P := P) (w := w) (base := base) X G c).kp (ja_cons (jx_e (je_v 5)) ja_nil))))) (JT.or1 (jt_cmpH (h_neL2 (tab := (foL [(.Amount, F_Amount_eq)])) rfl (un67 hr) (fo_cons (cmp_ok (c.fact 8) (c.fact 9) (c.fact 10) ((ok_Amount_eq X G c).cal hr)) fo_nil)) (jx_h 5) (jx_h 6) (nomark _)))))
    (js_one (js_ret je_bl)) js_nil)))))
    (js_cons (js_for [7] hp_cx rfl (ji_list rfl (JN.toE (jn_lst (jp_cons (JN.toE (jn_lst jp_nil)) (jp_cons je_non (jp_cons je_bl (jp_cons je_int (jp_cons je_str (jp_cons je_str (jp_cons (je_btH (b_tupL rfl) (f_tuple X G c) (ja_cons (jx_h 1) ja_nil)) (jp_cons (je_ixV 1 rfl je_int) (jp_cons (JN.toE (jn_kdisp hO (fun φ => (je_ix rfl (je_ixV 1 rfl je_int) je_int)) (fun φ => (je_ix rfl (je_ixV 1 rfl je_int) je_int)))) (jp_cons (JN.toE (jn_make tk_cx rfl (make_ok (c.fact 56) ((ok_Urn_init_v1 X G c).cal hr)) (g_Urn X G c) (ja_cons (jx_e (JN.toE (jn_lst (jp_cons (je_tup (jp_cons je_int (jp_cons je_int jp_nil))) jp_nil)))) ja_nil))) jp_nil))))))))))))) (jg_n sc_l_case_k10.nd (i := 7))
    (js_one (js_if (jt_not (jt_val (JR.toE (jr_call tk_cx ((ok_l_refused_k10 X G c).cal hr) (g_l_refused X G c) (ok_l_refused_k10 (P := P) (w := w) (base := base) X G c).kp (ja_cons (jx_e (je_v 7)) ja_nil)))))
    (js_one (js_ret je_bl)) js_nil)))
    (js_cons (js_if (jt_not (jt_val (JR.toE (jr_call tk_cx ((ok_l_refused_k10 X G c).cal hr) (g_l_refused X G c) (ok_l_refused_k10 (P := P) (w := w) (base := base) X G c).kp (ja_cons (jx_e (JN.toE (jn_make tk_cx rfl (make_ok (c.fact 57) ((ok_Amount_init_d1 X G c).cal hr)) (g_Amount X G c) (ja_cons (jx_e je_int) ja_nil)))) ja_nil)))))
    (js_one (js_ret je_bl)) js_nil)
    (js_cons (js_if (jt_w (JT.or (jt_not (jt_val (JR.toE (jr_call tk_cx ((ok_l_refused_k10 X G c).cal hr) (g_l_refused X G c) (ok_l_refused_k10 (P := P) (w := w) (base := base) X G c).kp (ja_cons (jx_e (JN.toE (jn_opH (n_cat rfl) (jx_h 1) (jx_e (JN.toE (jn_lst (jp_cons (je_ixV 1 rfl (je_v 3)) jp_nil))))))) ja_nil))))) (JT.or1 (jt_not (jt_val (JR.toE (jr_call tk_cx ((ok_l_refused_k10 X G c).cal hr) (g_l_refused X G c) (ok_l_refused_k10 (P := P) (w := w) (base := base) X G c).kp (ja_cons (jx_e (JN.toE (jn_lst (jp_cons (je_ixV 1 rfl (je_v 3)) (jp_cons (je_ixV 1 rfl (je_v 3)) jp_nil))))) ja_nil))))))))
    (js_one (js_ret je_bl)) js_nil)
    (js_one (js_ret (je_and (JR.toE (jr_call tk_cx ((ok_l_told_k10 X G c).cal hr) (g_l_told X G c) (ok_l_told_k10 (P := P) (w := w) (base := base) X G c).kp (ja_cons (jx_e (JN.toE (jn_make tk_cx rfl (make_ok (c.fact 56) ((ok_Urn_init_v1 X G c).cal hr)) (g_Urn X G c) (ja_cons (jx_e (JN.toE (jn_btH (b_list rfl) (f_list X G c) (ja_cons (jx_h 1) ja_nil)))) ja_nil)))) (ja_cons (jx_e (je_v 2)) ja_nil)))) (je_one (JR.toE (jr_call tk_cx ((ok_l_told_k10 X G c).cal hr) (g_l_told X G c) (ok_l_told_k10 (P := P) (w := w) (base := base) X G c).kp (ja_cons (jx_e (JN.toE (jn_make tk_cx rfl (make_ok (c.fact 56) ((ok_Urn_init_v1 X G c).cal hr)) (g_Urn X G c) (ja_cons (jx_e (JN.toE (jn_lst (jp_cons (je_ixV 1 rfl (je_v 3)) jp_nil)))) ja_nil)))) (ja_cons (jx_e (JN.toE (jn_lst (jp_cons (je_tup (jp_cons (je_ix rfl (je_ixV 1 rfl (je_v 3)) je_int) (jp_cons je_int jp_nil))) jp_nil)))) ja_nil))))))))))))))))
theorem ok_l_case_k10 : Dn P w (sgOf K) mg base 11 (He.ga K "_law_case") [] F_l_case_k10 := dn_all (d := d_l_case_k10) (c.def_ 19) rfl sc_l_case_k10 rfl (fun _ _ _ _ _ _ us hl => match us, hl with | [_], _ => rfl) (body_l_case_k10 X G c)
theorem body_l_jar : BodyOk P w (sgOf K) mg base 0 (["_law_script", "_law_at", "_law_cell", "_law_part", "_law_rest", "_law_turn"] : List Str) d_l_jar b_l_jar := by
  intro cdv A outer s H E φ hr hO
  exact (js_cons (js_set 2 sc_l_jar.nd je_int)
    (js_cons (js_if (jt_cmp o_lt (je_v 1) (je_len rfl (f_len X G c) (jb_v 0)) (nomark _))
    (js_one (js_set 2 sc_l_jar.nd (je_ixV 0 rfl (je_v 1)))) js_nil)
    (js_cons (js_if (jt_cmp o_ge (je_v 2) (je_op o_pow je_int je_int) (nomark _))
    (js_one (js_retW (jn_lst (jp_cons (je_op o_sub (je_v 2) (je_op o_pow je_int je_int)) jp_nil)))) js_nil)
    (js_cons (js_set 3 sc_l_jar.nd (je_op o_addI (je_op o_addI (je_op o_mod (je_bt b_int (f_int X G c) (jp_cons (je_v 2) jp_nil)) je_int) (je_op o_mul je_int (je_v 1))) je_int))
    (js_cons (js_set 4 sc_l_jar.nd je_int)
    (js_cons (js_for [5] hp_cx rfl (ji_range1 (f_range X G c) je_int) (jg_n sc_l_jar.nd (i := 5))
    (js_cons (js_set 3 sc_l_jar.nd (je_op o_mod (je_bt b_int (f_int X G c) (jp_cons (je_op o_addI (je_op o_addI (je_op o_addI (je_op o_mul (je_op o_mul (je_v 3) (je_v 3)) je_int) (je_op o_mul (je_v 3) (je_op o_addI (je_v 5) je_int))) (je_op o_mul je_int (je_v 1))) je_int) jp_nil)) je_int))
    (js_one (js_set 4 sc_l_jar.nd (je_op o_addI (je_op o_mul (je_v 4) je_int) (je_op o_mod (je_bt b_int (f_int X G c) (jp_cons (je_op o_fdiv (je_v 3) je_int) jp_nil)) je_int))))))
    (js_one (js_retW (jn_lst (jp_cons (je_v 4) jp_nil))))))))))
theorem ok_l_jar : Dn P w (sgOf K) mg base 1 (He.ga K "_law_jar") [] F_l_jar := dn_all (d := d_l_jar) (c.def_ 20) rfl sc_l_jar rfl (fun _ _ _ _ _ _ us hl => match us, hl with | [_, _], _ => rfl) (body_l_jar X G c)
theorem body_law_k10 : BodyOk P w (sgOf K) mg base 12 (["_law_script", "_law_at"] : List Str) d_law_k10 b_law_k10 := by
  intro cdv A outer s H E φ hr hO
  exact (js_cons (js_for [1] hp_cx rfl (ji_range1 (f_range X G c) (je_bf (b_max rfl) (f_max X G c) (jp_cons je_int (jp_cons (je_bf (b_min rfl) (f_min X G c) (jp_cons (je_len rfl (f_len X G c) (jb_v 0)) (jp_cons je_int jp_nil))) jp_nil)))) (jg_n sc_law_k10.nd (i := 1))
    (js_one (js_if (jt_not (jt_val (JR.toE (jr_callT tk_cx ((ok_l_case_k10 X G c).cal hr) (g_l_case X G c) (ok_l_case_k10 (P := P) (w := w) (base := base) X G c).kp (JR.toN (jr_call tk_cx ((ok_l_jar X G c).cal hr) (g_l_jar X G c) (ok_l_jar (P := P) (w := w) (base := base) X G c).kp (ja_cons (jx_e (je_v 0)) (ja_cons (jx_e (je_v 1)) ja_nil))))))))
    (js_one (js_ret je_bl)) js_nil)))
    (js_one (js_ret je_bl)))
theorem ok_law_k10 : Dn P w (sgOf K) mg base 13 (He.ga K "law") [] F_law_k10 := dn_all (d := d_law_k10) (c.def_ 21) rfl sc_law_k10 rfl (fun _ _ _ _ _ _ us hl => match us, hl with | [_], _ => rfl) (body_law_k10 X G c)
end
end Y

namespace Y
open PySem PySem.Spec L2 PyProof.Rows
set_option maxHeartbeats 0
theorem hdFacts {P : Program} {w : World} {K : PySem.W.Frag} {h : Heap} {mg : Str → Option Value} {f : Addr} (X : K.In h) (G : h.Ns mainGlobals mg) (hfa : mg ("law" : Str) = some (.ref f)) (c : SaysY fb fn K) :
    ∃ fd : FuncData, (∀ (s : Shared) (u : Value), BindsTo s fd ⟨[u], []⟩ [("_law_script", u)]) ∧ ∀ base : Heap, FnOk P w K mg base (L2.CX P w) 13 f fd ["_law_script"] (spOf (sgOf K) F_law_k10) := by
  obtain ⟨fd, Fd⟩ := c.def_ 21 (d := d_law_k10) rfl
  have e := hfa.symm.trans (He.glo_ok X G (c.fact 60 (f := kGlo "law") rfl))
  cases e
  have b := FunD.bindsA (ps := ["_law_script"]) Fd fun _ _ _ _ _ _ us hl => match us, hl with | [_], _ => rfl
  exact ⟨fd, fun s u => b s [u] rfl, fun base => fn_sem (S := sgOf K) Fd sc_law_k10 rfl (body_law_k10 X G c)⟩
end Y

open PySem PySem.W PySem.Calls PyProof.Rows
set_option maxHeartbeats 0
theorem PySem.Challenge.cw_yesorwait_k10_refused_urns_holds : PySem.Challenge.rw_yesorwait_k10_refused_urns.Holds := by
  w_on; o_law
  refine HandSHeadRun.head_any (r := OpenLaw.row PySem.Challenge.rw_yesorwait_k10_refused_urns) (q := view (OpenLaw.row PySem.Challenge.rw_yesorwait_k10_refused_urns).prog [30]) (H := Y.hdH) (ob := Y.hdO) (M := 100000) (loose := Y.nms) (d := HandSHeadRun.topDef (OpenLaw.row PySem.Challenge.rw_yesorwait_k10_refused_urns).prog 30) (kwd := []) Y.hdO_eq
    (by kernel_rfl) (fun s => by kernel_rfl) Y.hdRun (by kernel_rfl) (by kernel_rfl) (by kernel_rfl) (by rfl) (by first | assumption | decide +kernel) (by decide +kernel) ⟨rfl, rfl, rfl, rfl, rfl, by decide +kernel⟩ ?hw ?hc
  case hw => w_witness2
  case hc =>
    refine Y.walkY (l := PySem.Challenge.rw_yesorwait_k10_refused_urns) (n := 63) (k := 13) (x := "_law_script") (g := Y.F_law_k10) rfl (by decide) (by kernel_rfl) ⟨rfl, by decide, by decide⟩ (fun ns hl _ => Y.tru_k10 ns hl) ?F
    intro w mg fa h Y G hmg0
    obtain ⟨K, KX, c⟩ := Y
    have hmg : mg ("law" : PySem.Str) = some (.ref fa) := by
      have e : (HandSHeadRun.topDef (OpenLaw.row PySem.Challenge.rw_yesorwait_k10_refused_urns).prog 30).name = ("law" : PySem.Str) := by kernel_rfl
      rw [← e]
      exact hmg0
    obtain ⟨fd, hb, hF⟩ := Y.hdFacts (P := (PySem.Challenge.rw_yesorwait_k10_refused_urns).prog) (w := w) KX G hmg c
    exact ⟨K, fd, KX, hb, fun base _ _ => hF base⟩
